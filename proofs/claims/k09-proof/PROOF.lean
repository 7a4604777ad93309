import PyProof.Rows.All
import Wide.All
import OpenK.AllK
import Wide.FinOn
import HandS.ForMost
import HandS.Exc
import HandS.TryOnly
import HandS.TryMany
import HandS.ExcInit
import HandS.ExcField
import HandS.ExcIs
import HandS.CallSlots
import HandS.IsInst
import HandS.Walk
import HandS.HeadHook2
import HandS.TupAny
import HandS.TupMul
import HandS.WideBits
import HandS.Wide
import KE.KExcIs
import HandS.Defaults
import HandS.Zip
import HandS.Rev
import HandS.RevRange
import HandS.Conv
import KE.GoesMore
import HandS.HeadEnd
import HandS.EndBits
import HandS.Words
import HandS.More
import HandS.TupLe
import KE.KStateDown
import Lean
import HandS.Head0
import HandS.Head1
import HandS.Head2
import PySem.Challenge.RW_everydealt_k09_whole_stages_cut_and_pipe
set_option Elab.async false
set_option linter.all false
set_option maxRecDepth 100000
set_option maxHeartbeats 4000000
namespace FL
open PySem PySem.Spec L2
set_option autoImplicit false

/-! ### values, objects, results -/
inductive U where
  | non | bl (b : Bool) | int (i : Int) | str (x : Str) | tup (xs : List U) | rl (xs : List U) | ref (l : Nat)
  deriving Inhabited
inductive OU where
  | lst (xs : List U) | dct (kvs : List (U × U)) | ins (c : Str) (fs : List (Str × U))
  deriving Inhabited
abbrev Gp := List OU
abbrev Ev := List (Option U)
inductive R (α : Type) where
  | ok (a : α) (G : Gp) | exc (c : Str) (fs : List (Str × U)) (G : Gp) | bad
inductive SR where
  | nx (e : Ev) (G : Gp) | ret (u : U) (G : Gp) | brk (e : Ev) (G : Gp) | ct (e : Ev) (G : Gp) | exc (c : Str) (fs : List (Str × U)) (e : Ev) (G : Gp) | bad
def R.bind {α β : Type} (r : R α) (k : α → Gp → R β) : R β := match r with
  | .ok a G => k a G
  | .exc c fs G => .exc c fs G
  | .bad => .bad
def R.andThen {α : Type} (r : R α) (e : Ev) (k : α → Gp → SR) : SR := match r with
  | .ok a G => k a G
  | .exc c fs G => .exc c fs e G
  | .bad => .bad
theorem R.bind_ok {α β : Type} (a : α) (G : Gp) (k : α → Gp → R β) : (R.ok a G).bind k = k a G := rfl
theorem R.andThen_ok {α : Type} (a : α) (G : Gp) (e : Ev) (k : α → Gp → SR) : (R.ok a G).andThen e k = k a G := rfl

/-! ### the relation -/
/-- the written part, and what else is held of the heap (Z): it stays where lists, instances change and where things are new -/
structure Keeps (K : PySem.W.Frag) (H H' : Hp) : Prop where
  tup : ∀ a vs, H a = some (.tup vs) → H' a = some (.tup vs)
  frz : ∀ a o u, H a = some (.frz o u) → H' a = some (.frz o u)
  xd : ∀ a fs, H a = some (.xd fs) → H' a = some (.xd fs)
structure ZZ (K : PySem.W.Frag) where
  er : Option (Nat × Addr)
  P : List Addr → Hp → Prop
  st : ∀ ρ ρ' H H', ρ <+: ρ' → Keeps K H H' → P ρ H → P ρ' H'
structure KZ where
  K : PySem.W.Frag
  Z : ZZ K
def zT {K : PySem.W.Frag} : ZZ K := ⟨none, fun _ _ => True, fun _ _ _ _ _ _ _ => trivial⟩
abbrev kz (X : Cx) (Z : ZZ X.K) : KZ := ⟨X.K, Z⟩
def RLs (K : KZ) (H : Hp) (a : Addr) (xs : List V) : Prop :=
  (∃ o, H a = some (.frz o (.lst xs))) ∨
    ∃ (o : Obj) (its : Array Value) (n : Nat), K.K.lookup a = some o ∧ o.cls = .type "list" ∧ o.dict = none ∧ o.data = .seq its n ∧ its.size ≤ sizeLine ∧ Vals xs its.toList
theorem RLs.sq {K : KZ} {H : Hp} {a : Addr} {xs : List V} (h : RLs K H a xs) : SqL K.K H a xs := by
  rcases h with ⟨o, h⟩ | h
  · exact .inl (.inr ⟨o, h⟩)
  · exact .inr h
/-- a tuple: tracked, or of the written part -/
def TupAt (K : KZ) (H : Hp) (a : Addr) (xs : List V) : Prop :=
  H a = some (.tup xs) ∨
    ∃ (o : Obj) (its : Array Value) (n : Nat), K.K.lookup a = some o ∧ o.cls = .type "tuple" ∧ o.data = .seq its n ∧ its.size ≤ sizeLine ∧ Vals xs its.toList
theorem TupAt.sq {K : KZ} {H : Hp} {a : Addr} {xs : List V} (h : TupAt K H a xs) : SqT K.K H a xs := by
  rcases h with h | h
  · exact .inl (.inl h)
  · exact .inr h
mutual
inductive RU (K : KZ) (ρ : List Addr) (H : Hp) : U → V → Prop
  | non : RU K ρ H .non .non
  | bl (b : Bool) : RU K ρ H (.bl b) (.bl b)
  | int (i : Int) : RU K ρ H (.int i) (.int i)
  | str (x : Str) : RU K ρ H (.str x) (.str x)
  | ref {l : Nat} {a : Addr} (h : ρ[l]? = some a) : RU K ρ H (.ref l) (.ref a)
  | tup {xs : List U} {vs : List V} {a : Addr} (h : TupAt K H a vs) (r : RUs K ρ H xs vs) : RU K ρ H (.tup xs) (.ref a)
  | rl {xs : List U} {vs : List V} {a : Addr} (h : RLs K H a vs) (r : RUs K ρ H xs vs) : RU K ρ H (.rl xs) (.ref a)
inductive RUs (K : KZ) (ρ : List Addr) (H : Hp) : List U → List V → Prop
  | nil : RUs K ρ H [] []
  | cons {x : U} {v : V} {xs : List U} {vs : List V} (h : RU K ρ H x v) (t : RUs K ρ H xs vs) : RUs K ρ H (x :: xs) (v :: vs)
end
abbrev Stb (K : KZ) (H H' : Hp) : Prop := Keeps K.K H H'
theorem Stb.refl {K : KZ} {H : Hp} : Stb K H H := ⟨fun _ _ h => h, fun _ _ _ h => h, fun _ _ h => h⟩
theorem Stb.trans {K : KZ} {H H1 H2 : Hp} (a : Stb K H H1) (b : Stb K H1 H2) : Stb K H H2 := ⟨fun x vs h => b.tup x vs (a.tup x vs h), fun x o u h => b.frz x o u (a.frz x o u h), fun x fs h => b.xd x fs (a.xd x fs h)⟩
theorem Stb.tupAt {K : KZ} {H H' : Hp} {a : Addr} {xs : List V} (s : Stb K H H') (h : TupAt K H a xs) : TupAt K H' a xs := by
  rcases h with h | h
  · exact .inl (s.tup _ _ h)
  · exact .inr h
theorem Stb.rls {K : KZ} {H H' : Hp} {a : Addr} {xs : List V} (s : Stb K H H') (h : RLs K H a xs) : RLs K H' a xs := by
  rcases h with ⟨o, h⟩ | h
  · exact .inl ⟨o, s.frz _ _ _ h⟩
  · exact .inr h
theorem pre_get {ρ ρ' : List Addr} (p : ρ <+: ρ') {l : Nat} {a : Addr} (h : ρ[l]? = some a) : ρ'[l]? = some a := by
  obtain ⟨t, rfl⟩ := p
  rw [List.getElem?_append_left (by exact (List.getElem?_eq_some_iff.mp h).1)]
  exact h
section
variable {K : KZ} {ρ ρ' : List Addr} {H H' : Hp}
mutual
theorem RU.mono (p : ρ <+: ρ') (s : Stb K H H') : ∀ {u : U} {v : V}, RU K ρ H u v → RU K ρ' H' u v
  | _, _, .non => .non
  | _, _, .bl b => .bl b
  | _, _, .int i => .int i
  | _, _, .str x => .str x
  | _, _, .ref h => .ref (pre_get p h)
  | _, _, .tup h r => .tup (s.tupAt h) (RUs.mono p s r)
  | _, _, .rl h r => .rl (s.rls h) (RUs.mono p s r)
theorem RUs.mono (p : ρ <+: ρ') (s : Stb K H H') : ∀ {us : List U} {vs : List V}, RUs K ρ H us vs → RUs K ρ' H' us vs
  | _, _, .nil => .nil
  | _, _, .cons h t => .cons (RU.mono p s h) (RUs.mono p s t)
end
theorem RUs.len : ∀ {us : List U} {vs : List V}, RUs K ρ H us vs → us.length = vs.length
  | _, _, .nil => rfl
  | _, _, .cons _ t => by rw [List.length_cons, List.length_cons, t.len]
theorem RUs.get : ∀ {us : List U} {vs : List V}, RUs K ρ H us vs → ∀ {i : Nat} {v : V}, vs[i]? = some v → ∃ u, us[i]? = some u ∧ RU K ρ H u v
  | _, _, .nil, _, _, e => by simp at e
  | _, _, .cons h t, 0, v, e => by simp at e; subst e; exact ⟨_, rfl, h⟩
  | _, _, .cons h t, i + 1, v, e => by
    obtain ⟨u, e1, r⟩ := t.get (i := i) (v := v) (by simpa using e)
    exact ⟨u, by simpa using e1, r⟩
theorem RUs.getU : ∀ {us : List U} {vs : List V}, RUs K ρ H us vs → ∀ {i : Nat} {u : U}, us[i]? = some u → ∃ v, vs[i]? = some v ∧ RU K ρ H u v
  | _, _, .nil, _, _, e => by simp at e
  | _, _, .cons h t, 0, v, e => by simp at e; subst e; exact ⟨_, rfl, h⟩
  | _, _, .cons h t, i + 1, v, e => by
    obtain ⟨u, e1, r⟩ := t.getU (i := i) (u := v) (by simpa using e)
    exact ⟨u, by simpa using e1, r⟩
theorem RUs.append : ∀ {us : List U} {vs : List V}, RUs K ρ H us vs → ∀ {us' : List U} {vs' : List V}, RUs K ρ H us' vs' → RUs K ρ H (us ++ us') (vs ++ vs')
  | _, _, .nil, _, _, r => r
  | _, _, .cons h t, _, _, r => .cons h (t.append r)
theorem RUs.set : ∀ {us : List U} {vs : List V}, RUs K ρ H us vs → ∀ {u : U} {v : V}, RU K ρ H u v → ∀ i : Nat, RUs K ρ H (us.set i u) (vs.set i v)
  | _, _, .nil, _, _, _, _ => .nil
  | _, _, .cons _ t, _, _, r, 0 => .cons r t
  | _, _, .cons h t, _, _, r, i + 1 => .cons h (t.set r i)
theorem RUs.take : ∀ {us : List U} {vs : List V}, RUs K ρ H us vs → ∀ n : Nat, RUs K ρ H (us.take n) (vs.take n)
  | _, _, .nil, n => by simpa using RUs.nil
  | _, _, .cons _ _, 0 => .nil
  | _, _, .cons h t, n + 1 => .cons h (t.take n)
theorem RUs.drop : ∀ {us : List U} {vs : List V}, RUs K ρ H us vs → ∀ n : Nat, RUs K ρ H (us.drop n) (vs.drop n)
  | _, _, .nil, n => by simpa using RUs.nil
  | _, _, .cons h t, 0 => .cons h t
  | _, _, .cons _ t, n + 1 => t.drop n
theorem RUs.ints : ∀ (ns : List Int), RUs K ρ H (ns.map U.int) (ns.map V.int)
  | [] => .nil
  | n :: r => .cons (.int n) (RUs.ints r)
end
/-- fields: the same names, related values -/
def RFs (K : KZ) (ρ : List Addr) (H : Hp) (fs : List (Str × U)) (vfs : List (Str × V)) : Prop := fs.map (·.1) = vfs.map (·.1) ∧ RUs K ρ H (fs.map (·.2)) (vfs.map (·.2))
theorem RFs.mono {K : KZ} {ρ ρ' : List Addr} {H H' : Hp} (p : ρ <+: ρ') (s : Stb K H H') {fs : List (Str × U)} {vfs : List (Str × V)} (r : RFs K ρ H fs vfs) : RFs K ρ' H' fs vfs := ⟨r.1, r.2.mono p s⟩
def RO (K : KZ) (ρ : List Addr) (H : Hp) : OU → HO → Prop
  | .lst xs, .lst vs => RUs K ρ H xs vs
  | .ins c fs, .ins C _ vfs => C = He.ga K.K c ∧ RFs K ρ H fs vfs
  | _, _ => False
theorem RO.mono {K : KZ} {ρ ρ' : List Addr} {H H' : Hp} (p : ρ <+: ρ') (s : Stb K H H') {o : OU} {ho : HO} (r : RO K ρ H o ho) : RO K ρ' H' o ho := by
  cases o <;> cases ho <;> first | exact r.elim | exact RUs.mono p s r | exact ⟨r.1, r.2.mono p s⟩
structure Sim (K : KZ) (ρ : List Addr) (G : Gp) (H : Hp) : Prop where
  len : ρ.length = G.length
  nd : ρ.Nodup
  ob : ∀ (l : Nat) (o : OU) (a : Addr), G[l]? = some o → ρ[l]? = some a → ∃ ho, H a = some ho ∧ RO K ρ H o ho
  z : K.Z.P ρ H
/-- a slot list -/
def REq0 (K : KZ) (ρ : List Addr) (H : Hp) : Ev → St → Prop
  | [], [] => True
  | u :: us, v :: vs => (match u, v with
    | none, _ => True
    | some x, some y => RU K ρ H x y
    | some _, none => False) ∧ REq0 K ρ H us vs
  | _, _ => False
section
variable {K : KZ} {ρ ρ' : List Addr} {H H' : Hp} {G : Gp}
theorem REq0.mono (p : ρ <+: ρ') (s : Stb K H H') : ∀ {env : Ev} {σ : St}, REq0 K ρ H env σ → REq0 K ρ' H' env σ
  | [], [], _ => trivial
  | none :: us, v :: vs, h => ⟨h.1, REq0.mono p s h.2⟩
  | some x :: us, some y :: vs, h => ⟨RU.mono p s h.1, REq0.mono p s h.2⟩
  | some x :: us, none :: vs, h => h.1.elim
theorem REq0.get : ∀ {env : Ev} {σ : St}, REq0 K ρ H env σ → ∀ {i : Nat} {u : U}, env[i]? = some (some u) → ∃ v, σ[i]? = some (some v) ∧ RU K ρ H u v
  | [], [], _, _, _, e => by simp at e
  | none :: us, v :: vs, h, 0, u, e => by simp at e
  | some x :: us, some y :: vs, h, 0, u, e => by simp at e; subst e; exact ⟨y, rfl, h.1⟩
  | some x :: us, none :: vs, h, _, _, _ => h.1.elim
  | none :: us, v :: vs, h, i + 1, u, e => by
    obtain ⟨w, e1, r⟩ := REq0.get h.2 (i := i) (u := u) (by simpa using e)
    exact ⟨w, by simpa using e1, r⟩
  | some x :: us, some y :: vs, h, i + 1, u, e => by
    obtain ⟨w, e1, r⟩ := REq0.get h.2 (i := i) (u := u) (by simpa using e)
    exact ⟨w, by simpa using e1, r⟩
theorem REq0.set {x : U} {y : V} (r : RU K ρ H x y) : ∀ {env : Ev} {σ : St}, REq0 K ρ H env σ → ∀ i : Nat, REq0 K ρ H (env.set i (some x)) (σ.set i (some y))
  | [], [], _, _ => trivial
  | none :: us, v :: vs, h, 0 => ⟨r, h.2⟩
  | some _ :: us, some _ :: vs, h, 0 => ⟨r, h.2⟩
  | some x :: us, none :: vs, h, _ => h.1.elim
  | none :: us, v :: vs, h, i + 1 => ⟨h.1, REq0.set r h.2 i⟩
  | some _ :: us, some _ :: vs, h, i + 1 => ⟨h.1, REq0.set r h.2 i⟩
theorem REq0.unset : ∀ {env : Ev} {σ : St}, REq0 K ρ H env σ → ∀ i : Nat, REq0 K ρ H (env.set i none) (σ.set i none)
  | [], [], _, _ => trivial
  | none :: us, v :: vs, h, 0 => ⟨trivial, h.2⟩
  | some _ :: us, some _ :: vs, h, 0 => ⟨trivial, h.2⟩
  | some x :: us, none :: vs, h, _ => h.1.elim
  | none :: us, v :: vs, h, i + 1 => ⟨h.1, REq0.unset h.2 i⟩
  | some _ :: us, some _ :: vs, h, i + 1 => ⟨h.1, REq0.unset h.2 i⟩
def startE (n : Nat) (us : List U) : Ev := us.map some ++ List.replicate (n - us.length) none
theorem REq0.nones : ∀ n : Nat, REq0 K ρ H (List.replicate n none) (List.replicate n none)
  | 0 => trivial
  | n + 1 => ⟨trivial, REq0.nones n⟩
theorem REq0.start_app : ∀ {us : List U} {vs : List V}, RUs K ρ H us vs → ∀ n : Nat, REq0 K ρ H (us.map some ++ List.replicate n none) (vs.map some ++ List.replicate n none)
  | _, _, .nil, n => REq0.nones n
  | _, _, .cons h t, n => ⟨h, REq0.start_app t n⟩
theorem REq0.start {us : List U} {vs : List V} (r : RUs K ρ H us vs) (N : List Str) : REq0 K ρ H (startE N.length us) (L2.start N vs) := by
  unfold startE L2.start
  rw [r.len]
  exact REq0.start_app r _

end
/-- the slots; where an error is handled (er), its name's slot, as long as nothing else is stored there, holds it -/
def REq (K : KZ) (ρ : List Addr) (H : Hp) (env : Ev) (σ : St) : Prop := REq0 K ρ H env σ ∧ ∀ i a, K.Z.er = some (i, a) → env[i]? = some none → σ[i]? = some (some (.ref a))
section
variable {K : KZ} {ρ ρ' : List Addr} {H H' : Hp} {env : Ev} {σ : St}
theorem REq0.len : ∀ {env : Ev} {σ : St}, REq0 K ρ H env σ → env.length = σ.length
  | [], [], _ => rfl
  | none :: us, v :: vs, h => by rw [List.length_cons, List.length_cons, REq0.len h.2]
  | some _ :: us, some _ :: vs, h => by rw [List.length_cons, List.length_cons, REq0.len h.2]
  | some x :: us, none :: vs, h => h.1.elim
theorem REq.mono (p : ρ <+: ρ') (s : Stb K H H') (e : REq K ρ H env σ) : REq K ρ' H' env σ := ⟨e.1.mono p s, e.2⟩
theorem REq.get (e : REq K ρ H env σ) {i : Nat} {u : U} (h : env[i]? = some (some u)) : ∃ v, σ[i]? = some (some v) ∧ RU K ρ H u v := e.1.get h
theorem REq.set {x : U} {y : V} (r : RU K ρ H x y) (e : REq K ρ H env σ) (i : Nat) : REq K ρ H (env.set i (some x)) (σ.set i (some y)) := by
  refine ⟨e.1.set r i, fun j a h1 h2 => ?_⟩
  by_cases hj : j = i
  · subst hj
    by_cases hl : j < env.length
    · rw [List.getElem?_set_self hl] at h2; cases h2
    · rw [List.set_eq_of_length_le (by omega)] at h2
      rw [List.set_eq_of_length_le (by rw [← e.1.len]; omega)]
      exact e.2 j a h1 h2
  · rw [List.getElem?_set_ne (Ne.symm hj)] at h2 ⊢
    exact e.2 j a h1 h2
theorem REq.unset (hZ : K.Z.er = none) (e : REq K ρ H env σ) (i : Nat) : REq K ρ H (env.set i none) (σ.set i none) := ⟨e.1.unset i, fun j a h => by rw [hZ] at h; cases h⟩
theorem REq.start (hZ : K.Z.er = none) {us : List U} {vs : List V} (r : RUs K ρ H us vs) (N : List Str) : REq K ρ H (startE N.length us) (L2.start N vs) := ⟨REq0.start r N, fun j a h => by rw [hZ] at h; cases h⟩
end

section
variable {K : KZ} {ρ ρ' : List Addr} {H H' : Hp} {G : Gp}
/-! ### heaps change -/
theorem stb_new {p : Addr} {o : HO} (hp : H p = none) : Stb K H (upd H p o) := by
  refine ⟨fun a vs h => ?_, fun a q u h => ?_, fun a fs h => ?_⟩
  · rw [upd_ne (ne_of_none h hp)]; exact h
  · rw [upd_ne (ne_of_none h hp)]; exact h
  · rw [upd_ne (ne_of_none h hp)]; exact h
theorem stb_write {p : Addr} {o o' : HO} (hp : H p = some o) (n1 : ∀ xs, o ≠ .tup xs) (n2 : ∀ q u, o ≠ .frz q u) (n3 : ∀ fs, o ≠ .xd fs) : Stb K H (upd H p o') := by
  refine ⟨fun a vs h => ?_, fun a q u h => ?_, fun a fs h => ?_⟩
  · rw [upd_ne (ne_of h hp (fun z => n1 _ z.symm))]; exact h
  · rw [upd_ne (ne_of h hp (fun z => n2 _ _ z.symm))]; exact h
  · rw [upd_ne (ne_of h hp (fun z => n3 _ z.symm))]; exact h
theorem pre_refl {ρ : List Addr} : ρ <+: ρ := List.prefix_refl ρ
theorem Sim.addr (S : Sim K ρ G H) {l : Nat} {o : OU} (h : G[l]? = some o) : ∃ a, ρ[l]? = some a := by
  have h1 : l < G.length := (List.getElem?_eq_some_iff.mp h).1
  exact ⟨ρ[l]'(by rw [S.len]; exact h1), List.getElem?_eq_getElem _⟩
theorem Sim.back (S : Sim K ρ G H) {l : Nat} {a : Addr} (h : ρ[l]? = some a) : ∃ o ho, G[l]? = some o ∧ H a = some ho ∧ RO K ρ H o ho := by
  have h1 : l < ρ.length := (List.getElem?_eq_some_iff.mp h).1
  have h2 : G[l]? = some (G[l]'(by rw [← S.len]; exact h1)) := List.getElem?_eq_getElem _
  obtain ⟨ho, e, r⟩ := S.ob l _ a h2 h
  exact ⟨_, ho, h2, e, r⟩
/-- a heap that keeps all that is tracked -/
theorem Sim.keep (S : Sim K ρ G H) (k : ∀ a o, H a = some o → H' a = some o) (s : Stb K H H') : Sim K ρ G H' :=
  ⟨S.len, S.nd, fun l o a h1 h2 => by
    obtain ⟨ho, e, r⟩ := S.ob l o a h1 h2
    exact ⟨ho, k _ _ e, r.mono pre_refl s⟩, K.Z.st _ _ _ _ pre_refl s S.z⟩
theorem Sim.tup (S : Sim K ρ G H) {p : Addr} {o : HO} (hp : H p = none) : Sim K ρ G (upd H p o) :=
  S.keep (fun a q e => by rw [upd_ne (ne_of_none e hp)]; exact e) (stb_new hp)
theorem Sim.new (S : Sim K ρ G H) {p : Addr} {o : OU} {ho : HO} (hp : H p = none) (r : RO K (ρ ++ [p]) (upd H p ho) o ho) : Sim K (ρ ++ [p]) (G ++ [o]) (upd H p ho) := by
  have hn : p ∉ ρ := fun hm => by
    obtain ⟨l, e⟩ := List.getElem?_of_mem hm
    obtain ⟨o', ho', _, e2, _⟩ := S.back e
    rw [hp] at e2; cases e2
  refine ⟨by simp [S.len], ?_, fun l q a h1 h2 => ?_, K.Z.st _ _ _ _ ⟨[p], rfl⟩ (stb_new hp) S.z⟩
  · rw [List.nodup_append]
    refine ⟨S.nd, by simp, ?_⟩
    intro a ha b hb
    simp at hb
    subst hb
    rintro rfl
    exact hn ha
  · by_cases hl : l < G.length
    · rw [List.getElem?_append_left hl] at h1
      rw [List.getElem?_append_left (by rw [S.len]; exact hl)] at h2
      obtain ⟨w, e, rw'⟩ := S.ob l q a h1 h2
      exact ⟨w, by rw [upd_ne (ne_of_none e hp)]; exact e, rw'.mono ⟨[p], rfl⟩ (stb_new hp)⟩
    · have e : l = G.length := by
        have := (List.getElem?_eq_some_iff.mp h1).1
        simp at this; omega
      subst e
      rw [List.getElem?_append_right (Nat.le_refl _)] at h1
      rw [List.getElem?_append_right (by rw [S.len]; exact Nat.le_refl _)] at h2
      simp [S.len] at h1 h2
      subst h1 h2
      exact ⟨ho, upd_same, r⟩
theorem Sim.write (S : Sim K ρ G H) {l : Nat} {a : Addr} {o : OU} {ho old : HO} (ha : ρ[l]? = some a) (e0 : H a = some old) (n1 : ∀ xs, old ≠ .tup xs) (n2 : ∀ q u, old ≠ .frz q u) (n3 : ∀ fs, old ≠ .xd fs) (r : RO K ρ (upd H a ho) o ho) : Sim K ρ (G.set l o) (upd H a ho) := by
  refine ⟨by simp [S.len], S.nd, fun m q b h1 h2 => ?_, K.Z.st _ _ _ _ pre_refl (stb_write e0 n1 n2 n3) S.z⟩
  by_cases hm : m = l
  · subst hm
    rw [ha] at h2; cases h2
    have hl : m < G.length := by
      have := (List.getElem?_eq_some_iff.mp ha).1
      rw [S.len] at this; exact this
    rw [List.getElem?_set_self hl] at h1
    cases h1
    exact ⟨ho, upd_same, r⟩
  · rw [List.getElem?_set_ne (Ne.symm hm)] at h1
    obtain ⟨w, e, rw'⟩ := S.ob m q b h1 h2
    have hne : b ≠ a := by
      rintro rfl
      obtain ⟨h3, e3⟩ := List.getElem?_eq_some_iff.mp h2
      obtain ⟨h4, e4⟩ := List.getElem?_eq_some_iff.mp ha
      exact hm ((List.getElem_inj S.nd).mp (e3.trans e4.symm))
    exact ⟨w, by rw [upd_ne hne]; exact e, rw'.mono pre_refl (stb_write e0 n1 n2 n3)⟩
end

/-! ### ends -/
abbrev Rel (α β : Type) := List Addr → Hp → α → β → Prop
def Post {α β : Type} (K : KZ) (rel : Rel α β) (ρ : List Addr) (H : Hp) (r : R α) (Q : β → Hp → Prop) (E : XK) : Prop := match r with
  | .ok a G' => ∀ b ρ' H', ρ <+: ρ' → Stb K H H' → Sim K ρ' G' H' → rel ρ' H' a b → Q b H'
  | .exc c fs G' => ∀ d vfs ρ' H', ρ <+: ρ' → Stb K H H' → Sim K ρ' G' H' → H' d = some (.xd vfs) → RFs K ρ' H' fs vfs → E (.ref (He.ga K.K c)) (some d) H'
  | .bad => False
theorem Post.lift {α β : Type} {K : KZ} {rel : Rel α β} {ρ ρ1 : List Addr} {H H1 : Hp} {r : R α} {Q : β → Hp → Prop} {E : XK} (h : Post K rel ρ H r Q E) (p : ρ <+: ρ1) (s : Stb K H H1) : Post K rel ρ1 H1 r Q E := by
  cases r with
  | ok a G => exact fun b ρ' H' p' s' S q => h b ρ' H' (p.trans p') (s.trans s') S q
  | exc c fs G => exact fun d vfs ρ' H' p' s' S e q => h d vfs ρ' H' (p.trans p') (s.trans s') S e q
  | bad => exact h
theorem Post.end_ {α β : Type} {K : KZ} {rel : Rel α β} {ρ : List Addr} {H : Hp} {a : α} {G : Gp} {Q : β → Hp → Prop} {E : XK} (h : Post K rel ρ H (.ok a G) Q E) {b : β} (S : Sim K ρ G H) (r : rel ρ H a b) : Q b H := h b ρ H pre_refl Stb.refl S r
/-- a reading of its own -/
def tG {α β : Type} (K : KZ) (rel : Rel α β) (W : WX) (f : Ev → Gp → R α) : St → Hp → (β → Hp → Prop) → Prop := fun σ H Q => ∃ ρ G env, Sim K ρ G H ∧ REq K ρ H env σ ∧ Post K rel ρ H (f env G) Q fun c d H' => W c d σ H'
/-- one step, then the rest -/
theorem step {α β γ δ : Type} {K : KZ} {rel : Rel α β} {rel' : Rel γ δ} {W : WX} {f : Ev → Gp → R α} {k : α → Gp → R γ} {σ : St} {H : Hp} {ρ : List Addr} {G : Gp} {env : Ev} {Q : δ → Hp → Prop} (S : Sim K ρ G H) (e : REq K ρ H env σ)
    (h : Post K rel' ρ H ((f env G).bind k) Q fun c d H' => W c d σ H') :
    tG K rel W f σ H fun b H1 => ∃ ρ1 G1 a, ρ <+: ρ1 ∧ Stb K H H1 ∧ Sim K ρ1 G1 H1 ∧ REq K ρ1 H1 env σ ∧ rel ρ1 H1 a b ∧ Post K rel' ρ1 H1 (k a G1) Q fun c d H' => W c d σ H' := by
  refine ⟨ρ, G, env, S, e, ?_⟩
  cases q : f env G with
  | ok a G1 =>
    rw [q] at h
    exact fun b ρ1 H1 p s S1 r => ⟨ρ1, G1, a, p, s, S1, e.mono p s, r, Post.lift h p s⟩
  | exc c fs G1 => rw [q] at h; exact h
  | bad => rw [q] at h; exact h
def tF (K : KZ) (W : WX) (f : Ev → Gp → R U) : TE := tG K (RU K) W f
def ttF (K : KZ) (W : WX) (f : Ev → Gp → R Bool) : TT := tG K (fun _ _ a b => a = b) W f
def taF (K : KZ) (W : WX) (f : Ev → Gp → R (List U)) : TA := tG K (RUs K) W f
abbrev FE (X : Cx) (Z : ZZ X.K) (W : WX) (e : Expr) (f : Ev → Gp → R U) : Prop := PE X e (tF (kz X Z) W f)
abbrev FT (X : Cx) (Z : ZZ X.K) (W : WX) (e : Expr) (f : Ev → Gp → R Bool) : Prop := PT X e (ttF (kz X Z) W f)
abbrev FA (X : Cx) (Z : ZZ X.K) (W : WX) (es : List Expr) (f : Ev → Gp → R (List U)) : Prop := PA X es (taF (kz X Z) W f)
theorem PEimp {X : Cx} {e : Expr} {t t' : TE} (h : PE X e t) (i : ∀ σ H Q, t' σ H Q → t σ H Q) : PE X e t' := ⟨fun pins s σ H Q I q => h.run pins s σ H Q I (i σ H Q q)⟩
theorem PTimp {X : Cx} {e : Expr} {t t' : TT} (h : PT X e t) (i : ∀ σ H Q, t' σ H Q → t σ H Q) : PT X e t' := ⟨fun pins s σ H Q I q => h.run pins s σ H Q I (i σ H Q q)⟩
theorem PWimp {X : Cx} {e : Expr} {t t' : TT} (h : PW X e t) (i : ∀ σ H Q, t' σ H Q → t σ H Q) : PW X e t' := ⟨fun wh pins s σ H Q I q => h.run wh pins s σ H Q I (i σ H Q q)⟩
theorem PAimp {X : Cx} {e : List Expr} {t t' : TA} (h : PA X e t) (i : ∀ σ H Q, t' σ H Q → t σ H Q) : PA X e t' := ⟨fun pos pins s σ H Q I q => h.run pos pins s σ H Q I (i σ H Q q)⟩
theorem PSimp {X : Cx} {e : Stmt} {t t' : TS} (h : PS X e t) (i : ∀ D σ H, t' D σ H → t D σ H) : PS X e t' := ⟨fun pins s σ H D I q => h.run pins s σ H D I (i D σ H q)⟩
theorem PSsimp {X : Cx} {e : List Stmt} {t t' : TS} (h : PSs X e t) (i : ∀ D σ H, t' D σ H → t D σ H) : PSs X e t' := ⟨fun pins s σ H D I q => h.run pins s σ H D I (i D σ H q)⟩
theorem PGimp {X : Cx} {e : Expr} {t t' : TG} (h : PG X e t) (i : ∀ v σ H Q, t' v σ H Q → t v σ H Q) : PG X e t' := ⟨fun pins s σ H v u Q I r q => h.run pins s σ H v u Q I r (i v σ H Q q)⟩

/-! ### names, constants -/
def eVar (i : Nat) : Ev → Gp → R U := fun env G => match env[i]? with
  | some (some u) => .ok u G
  | _ => .bad
def eC (u : U) : Ev → Gp → R U := fun _ G => .ok u G
section
variable {X : Cx} {Z : ZZ X.K} {W : WX} {pos : Pos}
theorem tVar_of {K : KZ} {W : WX} {i : Nat} (σ : St) (H : Hp) (Q : VK) (h : tF K W (eVar i) σ H Q) : tVar i σ H Q := by
  obtain ⟨ρ, G, env, S, e, h⟩ := h
  cases q : env[i]? with
  | none => simp only [eVar, q] at h; exact h.elim
  | some o =>
    cases o with
    | none => simp only [eVar, q] at h; exact h.elim
    | some u =>
      simp only [eVar, q] at h
      obtain ⟨v, e1, r⟩ := e.get q
      exact ⟨v, e1, h.end_ S r⟩
theorem fv (i : Nat) {x : Str} {pos : Pos} (hN : X.N[i]? = some x := by rfl) (hv : Vis X.env.scope x := by first | exact Or.inl rfl | exact Or.inr (Or.inl rfl) | exact Or.inr (Or.inr rfl)) (hd : (x == ("__debug__" : Str)) = false := by decide)
    (hcd : (x == ("__classdict__" : Str)) = false := by decide) : FE X Z W (.Name x pos) (eVar i) := PEimp (pe_var hN hv hd hcd) tVar_of
theorem tC_of {K : KZ} {W : WX} {u : U} {v : V} (r : ∀ ρ H, RU K ρ H u v) (σ : St) (H : Hp) (Q : VK) (h : tF K W (eC u) σ H Q) : tC v σ H Q := by
  obtain ⟨ρ, G, env, S, e, h⟩ := h
  exact h.end_ (a := u) S (r _ _)
theorem fint {i j pos} : FE X Z W (.Constant (.int i) j pos) (eC (.int i)) := PEimp pe_int (tC_of fun _ _ => .int i)
theorem fbl {b j pos} : FE X Z W (.Constant (.bool b) j pos) (eC (.bl b)) := PEimp pe_bl (tC_of fun _ _ => .bl b)
theorem fnon {j pos} : FE X Z W (.Constant .none j pos) (eC .non) := PEimp pe_non (tC_of fun _ _ => .non)
theorem fstr {x j pos} : FE X Z W (.Constant (.str x) j pos) (eC (.str x)) := PEimp pe_str (tC_of fun _ _ => .str x)
/-- a module's constant: an int, a text -/
theorem fglobI {x : Str} {i : Int} (hg : Gl X x) (hm : ∃ t, X.mg x = some (.int i t)) (hd : (x == ("__debug__" : Str)) = false := by decide) : FE X Z W (.Name x pos) (eC (.int i)) := by
  obtain ⟨t, hm⟩ := hm
  exact PEimp (pe_glob (v := .int i) hg hm ⟨t, rfl⟩ hd) (tC_of fun _ _ => .int i)
theorem fglobS {x z : Str} (hg : Gl X x) (hm : ∃ t, X.mg x = some (.str z t)) (hd : (x == ("__debug__" : Str)) = false := by decide) : FE X Z W (.Name x pos) (eC (.str z)) := by
  obtain ⟨t, hm⟩ := hm
  exact PEimp (pe_glob (v := .str z) hg hm ⟨t, rfl⟩ hd) (tC_of fun _ _ => .str z)
end

/-! ### operators -/
def eBin (g : U → U → Gp → R U) (fa fb : Ev → Gp → R U) : Ev → Gp → R U := fun env G => (fa env G).bind fun x G1 => (fb env G1).bind fun y G2 => g x y G2
def eUn (g : U → Gp → R U) (fa : Ev → Gp → R U) : Ev → Gp → R U := fun env G => (fa env G).bind g
/-- the operator's reading does what g says -/
def Op2 (K : KZ) (r : R2) (g : U → U → Gp → R U) : Prop := ∀ ρ G H x y v w Q E, Sim K ρ G H → RU K ρ H x v → RU K ρ H y w → Post K (RU K) ρ H (g x y G) Q E → r v w H Q
def Op1 (K : KZ) (r : V → Hp → VK → Prop) (g : U → Gp → R U) : Prop := ∀ ρ G H x v Q E, Sim K ρ G H → RU K ρ H x v → Post K (RU K) ρ H (g x G) Q E → r v H Q
theorem tG_mono {α β : Type} {K : KZ} {rel : Rel α β} {W : WX} {f : Ev → Gp → R α} {σ : St} {H : Hp} {Q Q' : β → Hp → Prop} (h : tG K rel W f σ H Q) (i : ∀ b H1, Q b H1 → Q' b H1) : tG K rel W f σ H Q' := by
  obtain ⟨ρ, G, env, S, e, h⟩ := h
  refine ⟨ρ, G, env, S, e, ?_⟩
  cases q : f env G with
  | ok a G1 => rw [q] at h; exact fun b ρ1 H1 p s S1 r => i _ _ (h b ρ1 H1 p s S1 r)
  | exc c fs G1 => rw [q] at h; exact h
  | bad => rw [q] at h; exact h
theorem tOp_of {K : KZ} {W : WX} {r : R2} {g : U → U → Gp → R U} {fa fb : Ev → Gp → R U} (o : Op2 K r g) (σ : St) (H : Hp) (Q : VK) (h : tF K W (eBin g fa fb) σ H Q) : tOp r (tF K W fa) (tF K W fb) σ H Q := by
  obtain ⟨ρ, G, env, S, e, h⟩ := h
  exact tG_mono (step S e h) fun v H1 ⟨ρ1, G1, x, p1, s1, S1, e1, r1, h1⟩ => tG_mono (step S1 e1 h1) fun w H2 ⟨ρ2, G2, y, p2, s2, S2, e2, r2, h2⟩ => o _ _ _ _ _ _ _ _ _ S2 (r1.mono p2 s2) r2 h2
end FL

set_option Elab.async false
set_option linter.all false
set_option maxRecDepth 100000
set_option maxHeartbeats 4000000
set_option autoImplicit false
namespace FL
open PySem PySem.Spec L2

/-! ### binary operators: from two FE to one -/
section
variable {X : Cx} {Z : ZZ X.K} {W : WX} {a b : Expr} {fa fb : Ev → Gp → R U} {pos : Pos}
theorem fop {op : Operator} {r : R2} {g : U → U → Gp → R U} (o : Op2 (kz X Z) r g) (ho : OpR X (binaryOp op) r) (ha : FE X Z W a fa) (hb : FE X Z W b fb) : FE X Z W (.BinOp a op b pos) (eBin g fa fb) := PEimp (pe_op ho ha hb) (tOp_of o)
theorem fcmp {op : CmpOp} {r : R2} {g : U → U → Gp → R U} (o : Op2 (kz X Z) r g) (ho : OpR X (compareOp op) r) (ha : FE X Z W a fa) (hb : FE X Z W b fb) (hm : behindInMarks op b = false) : FE X Z W (.Compare a [op] [b] pos) (eBin g fa fb) := PEimp (pe_cmpR ho ha hb hm) (tOp_of o)
theorem fun1 {op : UnaryOp} {r : V → Hp → VK → Prop} {g : U → Gp → R U} (o : Op1 (kz X Z) r g) (ho : UnR X (unaryOp op) r) (ha : FE X Z W a fa) : FE X Z W (.UnaryOp op a pos) (eUn g fa) := by
  refine PEimp (pe_un ho ha) fun σ H Q h => ?_
  obtain ⟨ρ, G, env, S, e, h⟩ := h
  exact tG_mono (step S e h) fun v H1 ⟨ρ1, G1, x, p1, s1, S1, e1, r1, h1⟩ => o _ _ _ _ _ _ _ S1 r1 h1
end

/-! ### tests -/
/-- a value that is a bool -/
def asB (r : R U) : R Bool := r.bind fun u G => match u with
  | .bl b => .ok b G
  | _ => .bad
def bVal (f : Ev → Gp → R U) : Ev → Gp → R Bool := fun env G => asB (f env G)
section
variable {X : Cx} {Z : ZZ X.K} {W : WX} {a b : Expr} {fa fb : Ev → Gp → R U} {pos : Pos}
theorem tB_of {K : KZ} {W : WX} {f : Ev → Gp → R U} (σ : St) (H : Hp) (Q : Bool → Hp → Prop) (h : ttF K W (bVal f) σ H Q) : tF K W f σ H fun x H1 => ∃ k, x = .bl k ∧ Q k H1 := by
  obtain ⟨ρ, G, env, S, e, h⟩ := h
  refine tG_mono (step (k := fun u G => match u with | .bl b => R.ok b G | _ => .bad) S e h) fun v H1 ⟨ρ1, G1, x, p1, s1, S1, e1, r1, h1⟩ => ?_
  cases r1 with
  | bl k => exact ⟨k, rfl, h1.end_ S1 rfl⟩
  | _ => exact h1.elim
theorem ft_cmp {op : CmpOp} {r : R2} {g : U → U → Gp → R U} (o : Op2 (kz X Z) r g) (ho : OpR X (compareOp op) r) (ha : FE X Z W a fa) (hb : FE X Z W b fb) (hm : behindInMarks op b = false) : FT X Z W (.Compare a [op] [b] pos) (bVal (eBin g fa fb)) := by
  refine PTimp (pt_cmpR ho ha hb hm) fun σ H Q h => ?_
  exact tOp_of o σ H _ (tB_of σ H Q h)
theorem ft_val {e : Expr} {f : Ev → Gp → R U} (h : FE X Z W e f) (he : ∀ whole, isTrue e X.env whole = (do let v ← whole; standAt e.pos; holding [v] (truthy v)) := by intro _; rfl) : FT X Z W e (bVal f) :=
  PTimp (pt_val h he) fun σ H Q q => tB_of σ H Q q
/-- truth of any value -/
def truU (u : U) (G : Gp) : R Bool := match u with
  | .non => .ok false G
  | .bl b => .ok b G
  | .int i => .ok (i != 0) G
  | .str x => if x.length ≤ 16777216 then .ok (x.length != 0) G else .bad
  | .tup xs => .ok (!xs.isEmpty) G
  | .rl xs => .ok (!xs.isEmpty) G
  | .ref l => match G[l]? with
    | some (.lst xs) => .ok (!xs.isEmpty) G
    | _ => .bad
end
def tAndB (f g : Ev → Gp → R Bool) : Ev → Gp → R Bool := fun env G => (f env G).bind fun c G1 => if c = true then g env G1 else .ok false G1
def tOrB (f g : Ev → Gp → R Bool) : Ev → Gp → R Bool := fun env G => (f env G).bind fun c G1 => if c = true then .ok true G1 else g env G1
def tNotB (f : Ev → Gp → R Bool) : Ev → Gp → R Bool := fun env G => (f env G).bind fun c G1 => .ok (!c) G1
abbrev FW (X : Cx) (Z : ZZ X.K) (W : WX) (e : Expr) (f : Ev → Gp → R Bool) : Prop := PW X e (ttF (kz X Z) W f)
section
variable {X : Cx} {Z : ZZ X.K} {W : WX} {a b : Expr} {fa fb : Ev → Gp → R Bool} {pos : Pos} {rest : List Expr}
theorem fw_and1 (ha : FT X Z W a fa) : FW X Z W (.BoolOp .And [a] pos) fa := pw_and1 ha
theorem fw_or1 (ha : FT X Z W a fa) : FW X Z W (.BoolOp .Or [a] pos) fa := pw_or1 ha
theorem fw_and (ha : FT X Z W a fa) (hb : FW X Z W (.BoolOp .And (b :: rest) pos) fb) : FW X Z W (.BoolOp .And (a :: b :: rest) pos) (tAndB fa fb) := by
  refine PWimp (pw_and ha hb) fun σ H Q h => ?_
  obtain ⟨ρ, G, env, S, e, h⟩ := h
  refine tG_mono (step S e h) fun v H1 ⟨ρ1, G1, x, p1, s1, S1, e1, r1, h1⟩ => ?_
  subst r1
  cases x with
  | true => exact ⟨ρ1, G1, env, S1, e1, h1⟩
  | false => exact h1.end_ S1 rfl
theorem fw_or (ha : FT X Z W a fa) (hb : FW X Z W (.BoolOp .Or (b :: rest) pos) fb) : FW X Z W (.BoolOp .Or (a :: b :: rest) pos) (tOrB fa fb) := by
  refine PWimp (pw_or ha hb) fun σ H Q h => ?_
  obtain ⟨ρ, G, env, S, e, h⟩ := h
  refine tG_mono (step S e h) fun v H1 ⟨ρ1, G1, x, p1, s1, S1, e1, r1, h1⟩ => ?_
  subst r1
  cases x with
  | false => exact ⟨ρ1, G1, env, S1, e1, h1⟩
  | true => exact h1.end_ S1 rfl
theorem ft_w (h : FW X Z W a fa) : FT X Z W a fa := PW.pt h
theorem ft_not (ha : FT X Z W a fa) : FT X Z W (.UnaryOp .Not a pos) (tNotB fa) := by
  refine PTimp (pt_not ha) fun σ H Q h => ?_
  obtain ⟨ρ, G, env, S, e, h⟩ := h
  refine tG_mono (step S e h) fun v H1 ⟨ρ1, G1, x, p1, s1, S1, e1, r1, h1⟩ => ?_
  subst r1
  exact h1.end_ S1 rfl
end
/-! .. as values -/
def eAnd (f g : Ev → Gp → R U) : Ev → Gp → R U := fun env G => (bVal f env G).bind fun c G1 => if c = true then g env G1 else .ok (.bl false) G1
def eOr (f g : Ev → Gp → R U) : Ev → Gp → R U := fun env G => (bVal f env G).bind fun c G1 => if c = true then .ok (.bl true) G1 else g env G1
def eNot (f : Ev → Gp → R U) : Ev → Gp → R U := fun env G => (bVal f env G).bind fun c G1 => .ok (.bl (!c)) G1
def eIf (c : Ev → Gp → R Bool) (f g : Ev → Gp → R U) : Ev → Gp → R U := fun env G => (c env G).bind fun b G1 => if b = true then f env G1 else g env G1
section
variable {X : Cx} {Z : ZZ X.K} {W : WX} {a b c : Expr} {fa fb : Ev → Gp → R U} {fc : Ev → Gp → R Bool} {pos : Pos} {rest : List Expr} {op : BoolOp}
theorem bStep {K : KZ} {W : WX} {γ δ : Type} {rel' : Rel γ δ} {f : Ev → Gp → R U} {k : Bool → Gp → R γ} {σ : St} {H : Hp} {ρ : List Addr} {G : Gp} {env : Ev} {Q : δ → Hp → Prop} (S : Sim K ρ G H) (e : REq K ρ H env σ)
    (h : Post K rel' ρ H ((bVal f env G).bind k) Q fun c d H' => W c d σ H') :
    tF K W f σ H fun v H1 => ∃ c, v = .bl c ∧ ∃ ρ1 G1, Sim K ρ1 G1 H1 ∧ REq K ρ1 H1 env σ ∧ Post K rel' ρ1 H1 (k c G1) Q fun c d H' => W c d σ H' := by
  refine tB_of σ H _ ?_
  refine tG_mono (step (f := bVal f) (rel := fun _ _ a b => a = b) S e h) fun v H1 ⟨ρ1, G1, x, p1, s1, S1, e1, r1, h1⟩ => ?_
  subst r1
  exact ⟨ρ1, G1, S1, e1, h1⟩
theorem fone (ha : FE X Z W a fa) : FE X Z W (.BoolOp op [a] pos) fa := pe_one ha
theorem fand (ha : FE X Z W a fa) (hb : FE X Z W (.BoolOp .And (b :: rest) pos) fb) : FE X Z W (.BoolOp .And (a :: b :: rest) pos) (eAnd fa fb) := by
  refine PEimp (pe_and ha hb) fun σ H Q h => ?_
  obtain ⟨ρ, G, env, S, e, h⟩ := h
  refine tG_mono (bStep S e h) fun v H1 ⟨c, ev, ρ1, G1, S1, e1, h1⟩ => ⟨c, ev, ?_⟩
  cases c with
  | true => exact ⟨ρ1, G1, env, S1, e1, h1⟩
  | false => exact h1.end_ S1 (.bl _)
theorem for_ (ha : FE X Z W a fa) (hb : FE X Z W (.BoolOp .Or (b :: rest) pos) fb) : FE X Z W (.BoolOp .Or (a :: b :: rest) pos) (eOr fa fb) := by
  refine PEimp (pe_or ha hb) fun σ H Q h => ?_
  obtain ⟨ρ, G, env, S, e, h⟩ := h
  refine tG_mono (bStep S e h) fun v H1 ⟨c, ev, ρ1, G1, S1, e1, h1⟩ => ⟨c, ev, ?_⟩
  cases c with
  | false => exact ⟨ρ1, G1, env, S1, e1, h1⟩
  | true => exact h1.end_ S1 (.bl _)
theorem fnot (ha : FE X Z W a fa) : FE X Z W (.UnaryOp .Not a pos) (eNot fa) := by
  refine PEimp (pe_not ha) fun σ H Q h => ?_
  obtain ⟨ρ, G, env, S, e, h⟩ := h
  exact tG_mono (bStep S e h) fun v H1 ⟨c, ev, ρ1, G1, S1, e1, h1⟩ => ⟨c, ev, h1.end_ S1 (.bl _)⟩
theorem fif (hc : FT X Z W c fc) (ha : FE X Z W a fa) (hb : FE X Z W b fb) : FE X Z W (.IfExp c a b pos) (eIf fc fa fb) := by
  refine PEimp (pe_ifExp hc ha hb) fun σ H Q h => ?_
  obtain ⟨ρ, G, env, S, e, h⟩ := h
  refine tG_mono (step S e h) fun v H1 ⟨ρ1, G1, x, p1, s1, S1, e1, r1, h1⟩ => ?_
  subst r1
  cases x with
  | true => exact ⟨ρ1, G1, env, S1, e1, h1⟩
  | false => exact ⟨ρ1, G1, env, S1, e1, h1⟩
end

/-! ### arguments -/
def aNil : Ev → Gp → R (List U) := fun _ G => .ok [] G
def aCons (f : Ev → Gp → R U) (g : Ev → Gp → R (List U)) : Ev → Gp → R (List U) := fun env G => (f env G).bind fun x G1 => (g env G1).bind fun xs G2 => .ok (x :: xs) G2
section
variable {X : Cx} {Z : ZZ X.K} {W : WX} {e : Expr} {es : List Expr} {f : Ev → Gp → R U} {fs : Ev → Gp → R (List U)} {pos : Pos}
theorem fanil : FA X Z W [] aNil := by
  refine PAimp pa_nil fun σ H Q h => ?_
  obtain ⟨ρ, G, env, S, e, h⟩ := h
  exact Post.end_ (a := ([] : List U)) h S .nil
theorem facons (ha : FE X Z W e f) (hr : FA X Z W es fs) (hs : starEach (e :: es) X.env = (false, eval e X.env) :: starEach es X.env := by rfl) : FA X Z W (e :: es) (aCons f fs) := by
  refine PAimp (pa_cons ha hr hs) fun σ H Q h => ?_
  obtain ⟨ρ, G, env, S, e, h⟩ := h
  refine tG_mono (step S e h) fun v H1 ⟨ρ1, G1, x, p1, s1, S1, e1, r1, h1⟩ => ?_
  exact tG_mono (step S1 e1 h1) fun w H2 ⟨ρ2, G2, y, p2, s2, S2, e2, r2, h2⟩ => h2.end_ S2 (.cons (r1.mono p2 s2) r2)
/-- one step of a row of values -/
def eTup (g : Ev → Gp → R (List U)) : Ev → Gp → R U := fun env G => (g env G).bind fun xs G1 => if xs.length ≤ 16777216 then .ok (.tup xs) G1 else .bad
def eLst (g : Ev → Gp → R (List U)) : Ev → Gp → R U := fun env G => (g env G).bind fun xs G1 => if xs.length ≤ 16777216 then .ok (.ref G1.length) (G1 ++ [.lst xs]) else .bad
theorem line_eq : (sizeLine : Nat) = 16777216 := sizeLine_eq
theorem newTup {K : KZ} {ρ : List Addr} {G : Gp} {H : Hp} {xs : List U} {vs : List V} {Q : VK} {E : XK} (S : Sim K ρ G H) (r : RUs K ρ H xs vs) (h : Post K (RU K) ρ H (.ok (.tup xs) G) Q E) : ∀ p, H p = none → Q (.ref p) (upd H p (.tup vs)) :=
  fun p hp => h (.ref p) ρ _ pre_refl (stb_new hp) (S.tup hp) (.tup (.inl upd_same) (r.mono pre_refl (stb_new hp)))
theorem newLst {K : KZ} {ρ : List Addr} {G : Gp} {H : Hp} {xs : List U} {vs : List V} {Q : VK} {E : XK} (S : Sim K ρ G H) (r : RUs K ρ H xs vs) (h : Post K (RU K) ρ H (.ok (.ref G.length) (G ++ [.lst xs])) Q E) : ∀ p, H p = none → Q (.ref p) (upd H p (.lst vs)) :=
  fun p hp => h (.ref p) (ρ ++ [p]) _ ⟨[p], rfl⟩ (stb_new hp) (S.new hp (show RUs K (ρ ++ [p]) _ xs vs from r.mono ⟨[p], rfl⟩ (stb_new hp))) (.ref (by rw [← S.len]; simp))
theorem ftup {k : Nat} (h : FA X Z W es fs) : FE X Z W (.Tuple es k pos) (eTup fs) := by
  refine PEimp (pe_tup h) fun σ H Q h => ?_
  obtain ⟨ρ, G, env, S, e, h⟩ := h
  refine tG_mono (step (rel := RUs (kz X Z)) S e h) fun v H1 ⟨ρ1, G1, x, p1, s1, S1, e1, r1, h1⟩ => ?_
  by_cases hl : x.length ≤ 16777216
  · rw [if_pos hl] at h1
    exact ⟨by rw [← r1.len, line_eq]; exact hl, newTup S1 r1 h1⟩
  · rw [if_neg hl] at h1; exact h1.elim
theorem flst {pos : Pos} (h : FA X Z W es fs) : FE X Z W (.List es pos) (eLst fs) := by
  refine PEimp (pe_lst h) fun σ H Q h => ?_
  obtain ⟨ρ, G, env, S, e, h⟩ := h
  refine tG_mono (step (rel := RUs (kz X Z)) S e h) fun v H1 ⟨ρ1, G1, x, p1, s1, S1, e1, r1, h1⟩ => ?_
  by_cases hl : x.length ≤ 16777216
  · rw [if_pos hl] at h1
    exact ⟨by rw [← r1.len, line_eq]; exact hl, newLst S1 r1 h1⟩
  · rw [if_neg hl] at h1; exact h1.elim
end

/-! ### statements -/
def PostS (K : KZ) (ρ : List Addr) (H : Hp) (r : SR) (D : Ends) (W : WX) : Prop := match r with
  | .nx env' G' => ∀ σ' ρ' H', ρ <+: ρ' → Stb K H H' → Sim K ρ' G' H' → REq K ρ' H' env' σ' → D.nx σ' H'
  | .ret u G' => ∀ v ρ' H', ρ <+: ρ' → Stb K H H' → Sim K ρ' G' H' → RU K ρ' H' u v → D.rt v H'
  | .brk env' G' => ∀ σ' ρ' H', ρ <+: ρ' → Stb K H H' → Sim K ρ' G' H' → REq K ρ' H' env' σ' → D.bk σ' H'
  | .ct env' G' => ∀ σ' ρ' H', ρ <+: ρ' → Stb K H H' → Sim K ρ' G' H' → REq K ρ' H' env' σ' → D.ct σ' H'
  | .exc c fs env' G' => ∀ σ' d vfs ρ' H', ρ <+: ρ' → Stb K H H' → Sim K ρ' G' H' → REq K ρ' H' env' σ' → H' d = some (.xd vfs) → RFs K ρ' H' fs vfs → W (.ref (He.ga K.K c)) (some d) σ' H'
  | .bad => False
theorem PostS.lift {K : KZ} {ρ ρ1 : List Addr} {H H1 : Hp} {r : SR} {D : Ends} {W : WX} (h : PostS K ρ H r D W) (p : ρ <+: ρ1) (s : Stb K H H1) : PostS K ρ1 H1 r D W := by
  cases r with
  | nx e G => exact fun σ ρ' H' p' s' S q => h σ ρ' H' (p.trans p') (s.trans s') S q
  | brk e G => exact fun σ ρ' H' p' s' S q => h σ ρ' H' (p.trans p') (s.trans s') S q
  | ct e G => exact fun σ ρ' H' p' s' S q => h σ ρ' H' (p.trans p') (s.trans s') S q
  | ret u G => exact fun v ρ' H' p' s' S q => h v ρ' H' (p.trans p') (s.trans s') S q
  | exc c fs e G => exact fun σ d vfs ρ' H' p' s' S q1 q2 q3 => h σ d vfs ρ' H' (p.trans p') (s.trans s') S q1 q2 q3
  | bad => exact h
theorem PostS.nx_ {K : KZ} {ρ : List Addr} {H : Hp} {env : Ev} {G : Gp} {D : Ends} {W : WX} (h : PostS K ρ H (.nx env G) D W) {σ : St} (S : Sim K ρ G H) (e : REq K ρ H env σ) : D.nx σ H := h σ ρ H pre_refl Stb.refl S e
def tS (K : KZ) (W : WX) (g : Ev → Gp → SR) : TS := fun D σ H => ∃ ρ G env, Sim K ρ G H ∧ REq K ρ H env σ ∧ PostS K ρ H (g env G) D W
abbrev FS (X : Cx) (Z : ZZ X.K) (W : WX) (st : Stmt) (g : Ev → Gp → SR) : Prop := PS X st (tS (kz X Z) W g)
abbrev FSs (X : Cx) (Z : ZZ X.K) (W : WX) (st : List Stmt) (g : Ev → Gp → SR) : Prop := PSs X st (tS (kz X Z) W g)
theorem stepS {α β : Type} {K : KZ} {rel : Rel α β} {W : WX} {f : Ev → Gp → R α} {k : α → Gp → SR} {σ : St} {H : Hp} {ρ : List Addr} {G : Gp} {env : Ev} {D : Ends} (S : Sim K ρ G H) (e : REq K ρ H env σ)
    (h : PostS K ρ H ((f env G).andThen env k) D W) :
    tG K rel W f σ H fun b H1 => ∃ ρ1 G1 a, ρ <+: ρ1 ∧ Stb K H H1 ∧ Sim K ρ1 G1 H1 ∧ REq K ρ1 H1 env σ ∧ rel ρ1 H1 a b ∧ PostS K ρ1 H1 (k a G1) D W := by
  refine ⟨ρ, G, env, S, e, ?_⟩
  cases q : f env G with
  | ok a G1 =>
    rw [q] at h
    exact fun b ρ1 H1 p s S1 r => ⟨ρ1, G1, a, p, s, S1, e.mono p s, r, PostS.lift h p s⟩
  | exc c fs G1 =>
    rw [q] at h
    exact fun d vfs ρ' H' p s S1 q1 q2 => h σ d vfs ρ' H' p s S1 (e.mono p s) q1 q2
  | bad => rw [q] at h; exact h
def sNil : Ev → Gp → SR := fun env G => .nx env G
def sSeq (g1 g2 : Ev → Gp → SR) : Ev → Gp → SR := fun env G => match g1 env G with
  | .nx env' G' => g2 env' G'
  | r => r
def sExpr (f : Ev → Gp → R U) : Ev → Gp → SR := fun env G => (f env G).andThen env fun _ G1 => .nx env G1
def sRet (f : Ev → Gp → R U) : Ev → Gp → SR := fun env G => (f env G).andThen env fun u G1 => .ret u G1
def sRetN : Ev → Gp → SR := fun _ G => .ret .non G
def sBrk : Ev → Gp → SR := fun env G => .brk env G
def sCt : Ev → Gp → SR := fun env G => .ct env G
def sIf (c : Ev → Gp → R Bool) (g1 g2 : Ev → Gp → SR) : Ev → Gp → SR := fun env G => (c env G).andThen env fun b G1 => if b = true then g1 env G1 else g2 env G1
def sAsg (f : Ev → Gp → R U) (gf : U → Ev → Gp → R Ev) : Ev → Gp → SR := fun env G => (f env G).andThen env fun u G1 => (gf u env G1).andThen env fun env' G2 => .nx env' G2
def gNm (i : Nat) : U → Ev → Gp → R Ev := fun u env G => .ok (env.set i (some u)) G
section
variable {X : Cx} {Z : ZZ X.K} {W : WX} {st : Stmt} {sts : List Stmt} {g g1 g2 : Ev → Gp → SR} {e c : Expr} {f : Ev → Gp → R U} {fc : Ev → Gp → R Bool} {pos : Pos}
theorem fsnil : FSs X Z W [] sNil := PSsimp pss_nil fun D σ H ⟨_, _, _, S, e, h⟩ => h.nx_ S e
theorem seqT {K : KZ} {W : WX} {g1 g2 : Ev → Gp → SR} (D : Ends) (σ : St) (H : Hp) (h : tS K W (sSeq g1 g2) D σ H) : tSeq (tS K W g1) (tS K W g2) D σ H := by
  obtain ⟨ρ, G, env, S, e, h⟩ := h
  refine ⟨ρ, G, env, S, e, ?_⟩
  unfold sSeq at h
  cases q : g1 env G with
  | nx env' G' => rw [q] at h; exact fun σ' ρ' H' p s S' e' => ⟨ρ', G', env', S', e', h.lift p s⟩
  | ret u G' => rw [q] at h; exact h
  | brk env' G' => rw [q] at h; exact h
  | ct env' G' => rw [q] at h; exact h
  | exc c fs env' G' => rw [q] at h; exact h
  | bad => rw [q] at h; exact h
theorem fscons (h1 : FS X Z W st g1) (h2 : FSs X Z W sts g2) : FSs X Z W (st :: sts) (sSeq g1 g2) := PSsimp (pss_cons h1 h2) seqT
theorem fsone (h1 : FS X Z W st g1) : FSs X Z W [st] g1 := pss_one h1
theorem fpass : FS X Z W (.Pass pos) sNil := PSimp ps_pass fun D σ H ⟨_, _, _, S, e, h⟩ => h.nx_ S e
theorem fbrk : FS X Z W (.Break pos) sBrk := PSimp ps_break fun D σ H ⟨_, _, _, S, e, h⟩ => h σ _ H pre_refl Stb.refl S e
theorem fct : FS X Z W (.Continue pos) sCt := PSimp ps_continue fun D σ H ⟨_, _, _, S, e, h⟩ => h σ _ H pre_refl Stb.refl S e
theorem fdoc {x j pos pos'} : FS X Z W (.Expr (.Constant (.str x) j pos) pos') sNil := PSimp ps_doc fun D σ H ⟨_, _, _, S, e, h⟩ => h.nx_ S e
theorem fexpr (he : FE X Z W e f) (hs : swapsWith e none pos.line X.env = pure false := by rfl) : FS X Z W (.Expr e pos) (sExpr f) := by
  refine PSimp (ps_expr he hs) fun D σ H ⟨ρ, G, env, S, e, h⟩ => ?_
  exact tG_mono (stepS S e h) fun v H1 ⟨ρ1, G1, x, p1, s1, S1, e1, r1, h1⟩ => h1.nx_ S1 e1
theorem fret (he : FE X Z W e f) : FS X Z W (.Return (some e) pos) (sRet f) := by
  refine PSimp (ps_ret he) fun D σ H ⟨ρ, G, env, S, e, h⟩ => ?_
  exact tG_mono (stepS S e h) fun v H1 ⟨ρ1, G1, x, p1, s1, S1, e1, r1, h1⟩ => h1 v _ _ pre_refl Stb.refl S1 r1
theorem fretN : FS X Z W (.Return none pos) sRetN := PSimp ps_retN fun D σ H ⟨_, _, _, S, e, h⟩ => h .non _ _ pre_refl Stb.refl S .non
theorem fsif {a b : List Stmt} (hc : FT X Z W c fc) (ha : FSs X Z W a g1) (hb : FSs X Z W b g2) : FS X Z W (.If c a b pos) (sIf fc g1 g2) := by
  refine PSimp (ps_if hc ha hb) fun D σ H ⟨ρ, G, env, S, e, h⟩ => ?_
  refine tG_mono (stepS S e h) fun v H1 ⟨ρ1, G1, x, p1, s1, S1, e1, r1, h1⟩ => ?_
  subst r1
  cases x with
  | true => exact ⟨ρ1, G1, env, S1, e1, h1⟩
  | false => exact ⟨ρ1, G1, env, S1, e1, h1⟩
/-! targets -/
def tgF (K : KZ) (gf : U → Ev → Gp → R Ev) : TG := fun v σ H Q => ∃ ρ G env u, Sim K ρ G H ∧ REq K ρ H env σ ∧ RU K ρ H u v ∧ Post K (REq K) ρ H (gf u env G) Q (fun _ _ _ => False)
abbrev FG (X : Cx) (Z : ZZ X.K) (e : Expr) (gf : U → Ev → Gp → R Ev) : Prop := PG X e (tgF (kz X Z) gf)
theorem fgname {i : Nat} {x : Str} (hN : X.N.Nodup) (hi : X.N[i]? = some x) (hx : Loc X.env.scope x) (hf : X.fn x = true ∨ X.env.scope.names.lookup x = some .local := by first | exact .inl rfl | exact .inr rfl | assumption) : FG X Z (.Name x pos) (gNm i) :=
  PGimp (pg_name hN hi hx hf) fun v σ H Q ⟨ρ, G, env, u, S, e, r, h⟩ => h.end_ S (e.set r i)
theorem toG {K : KZ} {W : WX} {gf : U → Ev → Gp → R Ev} {ρ1 : List Addr} {G1 : Gp} {H1 : Hp} {env : Ev} {σ : St} {x : U} {v : V} {D : Ends} (S1 : Sim K ρ1 G1 H1) (e1 : REq K ρ1 H1 env σ) (r1 : RU K ρ1 H1 x v)
    (hx : ∀ c fs G, gf x env G1 ≠ .exc c fs G) (h1 : PostS K ρ1 H1 ((gf x env G1).andThen env fun env' G2 => .nx env' G2) D W) : tgF K gf v σ H1 D.nx := by
  refine ⟨ρ1, G1, env, x, S1, e1, r1, ?_⟩
  cases q : gf x env G1 with
  | ok env' G' => rw [q] at h1; exact fun σ' ρ' H' p s S' e' => h1 σ' ρ' H' p s S' e'
  | exc c fs G' => exact absurd q (hx c fs G')
  | bad => rw [q] at h1; exact h1
/-- a target that lets no exception out -/
def NoX (gf : U → Ev → Gp → R Ev) : Prop := ∀ u env G c fs G', gf u env G ≠ .exc c fs G'
theorem fasg {tg : Expr} {gf : U → Ev → Gp → R Ev} (he : FE X Z W e f) (hg : FG X Z tg gf) (nx : NoX gf) (hs : swapsWithSole [tg] e pos.line X.env = pure false := by rfl) (hw : swappedStores [tg] e X.env = pure none := by rfl)
    (h1 : (assignEach [tg] X.env).map (·.2) = [assign tg X.env] := by rfl) : FS X Z W (.Assign [tg] e pos) (sAsg f gf) := by
  refine PSimp (ps_asg he hg hs hw h1) fun D σ H ⟨ρ, G, env, S, e, h⟩ => ?_
  exact tG_mono (stepS S e h) fun v H1 ⟨ρ1, G1, x, p1, s1, S1, e1, r1, h1⟩ => toG S1 e1 r1 (nx x env G1) h1
theorem fset {i : Nat} {x : Str} {pos' : Pos} (hN : X.N.Nodup) (hi : X.N[i]? = some x) (hx : Loc X.env.scope x) (he : FE X Z W e f) (hs : swapsWith e (some (.Name x pos')) pos.line X.env = pure false := by rfl)
    (hf : X.fn x = true ∨ X.env.scope.names.lookup x = some .local := by first | exact .inl rfl | exact .inr rfl | assumption) : FS X Z W (.Assign [.Name x pos'] e pos) (sAsg f (gNm i)) := by
  refine PSimp (ps_set hN hi hx he hs hf) fun D σ H ⟨ρ, G, env, S, e, h⟩ => ?_
  exact tG_mono (stepS S e h) fun v H1 ⟨ρ1, G1, x, p1, s1, S1, e1, r1, h1⟩ => h1 _ _ _ pre_refl Stb.refl S1 (e1.set r1 i)
theorem nxName (i : Nat) : NoX (gNm i) := fun _ _ _ _ _ _ h => nomatch h
end
/-! tuple targets -/
def gNil : List U → Ev → Gp → R Ev := fun us env G => match us with
  | [] => .ok env G
  | _ => .bad
def gCons (g : U → Ev → Gp → R Ev) (gs : List U → Ev → Gp → R Ev) : List U → Ev → Gp → R Ev := fun us env G => match us with
  | u :: r => (g u env G).bind fun env' G' => gs r env' G'
  | [] => .bad
def gTup (gs : List U → Ev → Gp → R Ev) (n : Nat) : U → Ev → Gp → R Ev := fun u env G => match u with
  | .tup xs => if xs.length = n then gs xs env G else .bad
  | _ => .bad
/-- a list or a tuple -/
def gSq (gs : List U → Ev → Gp → R Ev) (n : Nat) : U → Ev → Gp → R Ev := fun u env G => match u with
  | .tup xs => if xs.length = n then gs xs env G else .bad
  | .ref l => match G[l]? with
    | some (.lst xs) => if xs.length = n then gs xs env G else .bad
    | _ => .bad
  | _ => .bad
section
variable {X : Cx} {Z : ZZ X.K} {W : WX} {e : Expr} {es : List Expr} {pos : Pos}
def tgsF (K : KZ) (gs : List U → Ev → Gp → R Ev) : TGs := fun vs σ H Q => ∃ ρ G env us, Sim K ρ G H ∧ REq K ρ H env σ ∧ RUs K ρ H us vs ∧ Post K (REq K) ρ H (gs us env G) Q (fun _ _ _ => False)
abbrev FGs (X : Cx) (Z : ZZ X.K) (es : List Expr) (gs : List U → Ev → Gp → R Ev) : Prop := PGs X es (tgsF (kz X Z) gs)
theorem PGsimp {es : List Expr} {t t' : TGs} (h : PGs X es t) (i : ∀ vs σ H Q, t' vs σ H Q → t vs σ H Q) : PGs X es t' := ⟨fun pins s σ H vs us Q I r q => h.run pins s σ H vs us Q I r (i vs σ H Q q)⟩
theorem fgnil : FGs X Z [] gNil := by
  refine PGsimp pgs_nil fun vs σ H Q ⟨ρ, G, env, us, S, e, r, h⟩ => ?_
  cases r with
  | nil => exact ⟨rfl, h.end_ S e⟩
  | cons _ _ => exact h.elim
theorem fgcons {g : U → Ev → Gp → R Ev} {gs : List U → Ev → Gp → R Ev} (h1 : FG X Z e g) (h2 : FGs X Z es gs) (hs : (assignEach (e :: es) X.env).map (·.2) = assign e X.env :: (assignEach es X.env).map (·.2) := by rfl) : FGs X Z (e :: es) (gCons g gs) := by
  refine PGsimp (pgs_cons h1 h2 hs) fun vs σ H Q ⟨ρ, G, env, us, S, e, r, h⟩ => ?_
  cases r with
  | nil => exact h.elim
  | @cons x v xs vs hx hr =>
    refine ⟨v, vs, rfl, ρ, G, env, x, S, e, hx, ?_⟩
    have h : Post (kz X Z) (REq (kz X Z)) ρ H ((g x env G).bind fun env' G' => gs xs env' G') Q (fun _ _ _ => False) := h
    cases q : g x env G with
    | ok env' G' => rw [q] at h; exact fun σ' ρ' H' p s S' e' => ⟨ρ', G', env', xs, S', e', hr.mono p s, Post.lift h p s⟩
    | exc c fs G' => rw [q] at h; exact h
    | bad => rw [q] at h; exact h
theorem fgtup {k n : Nat} {gs : List U → Ev → Gp → R Ev} (hc : X.calm = true) (h : FGs X Z es gs) (hn : (assignEach es X.env).length = n := by rfl) (hst : (assignEach es X.env).findIdx? (·.1) = none := by rfl) : FG X Z (.Tuple es k pos) (gTup gs n) := by
  refine PGimp (pg_tup hc h hn hst) fun v σ H Q ⟨ρ, G, env, u, S, e, r, h⟩ => ?_
  cases r with
  | @tup xs vs a ht hr =>
    have h : Post (kz X Z) (REq (kz X Z)) ρ H (if xs.length = n then gs xs env G else .bad) Q (fun _ _ _ => False) := h
    by_cases hl : xs.length = n
    · rw [if_pos hl] at h
      exact ⟨a, vs, rfl, ht.sq, by rw [← hr.len]; exact hl, ρ, G, env, xs, S, e, hr, h⟩
    · rw [if_neg hl] at h; exact h.elim
  | _ => exact h.elim
end
end FL

set_option Elab.async false
set_option linter.all false
set_option maxRecDepth 100000
set_option maxHeartbeats 4000000
set_option autoImplicit false
namespace FL
open PySem PySem.Spec L2

def NoXs (gs : List U → Ev → Gp → R Ev) : Prop := ∀ us env G c fs G', gs us env G ≠ .exc c fs G'
theorem nxNil : NoXs gNil := fun us env G c fs G' h => by
  cases us <;> exact nomatch h
theorem nxCons {g : U → Ev → Gp → R Ev} {gs : List U → Ev → Gp → R Ev} (h1 : NoX g) (h2 : NoXs gs) : NoXs (gCons g gs) := fun us env G c fs G' h => by
  cases us with
  | nil => exact nomatch h
  | cons u r =>
    have h : (g u env G).bind (fun env' G' => gs r env' G') = .exc c fs G' := h
    cases q : g u env G with
    | ok env' G1 => rw [q] at h; exact h2 _ _ _ _ _ _ h
    | exc c' fs' G1 => exact h1 _ _ _ _ _ _ q
    | bad => rw [q] at h; exact nomatch h
theorem nxTup {gs : List U → Ev → Gp → R Ev} {n : Nat} (h : NoXs gs) : NoX (gTup gs n) := fun u env G c fs G' q => by
  cases u with
  | tup xs =>
    have q : (if xs.length = n then gs xs env G else .bad) = R.exc c fs G' := q
    by_cases hl : xs.length = n
    · rw [if_pos hl] at q; exact h _ _ _ _ _ _ q
    · rw [if_neg hl] at q; exact nomatch q
  | _ => exact nomatch q

/-! ### what is walked -/
inductive Src where
  | items (xs : List U)
  | live (n : Nat) (nth : Nat → Gp → Option (Option U))
def Src.at_ (s : Src) (i : Nat) (G : Gp) : Option (Option U) := match s with
  | .items xs => some xs[i]?
  | .live _ nth => nth i G
def Src.fuel (s : Src) : Nat := match s with
  | .items xs => xs.length + 1
  | .live n _ => n
/-- the iterator J, made at ρ0, H0, gives what the source tells -/
def Wk (K : KZ) (ρ0 : List Addr) (H0 : Hp) (src : Src) (J : It) : Prop := ∀ ρ H G i, ρ0 <+: ρ → Stb K H0 H → Sim K ρ G H → match src.at_ i G with
  | none => True
  | some none => J.stop i H
  | some (some u) => J.go i H ∧ ∀ x H', J.yld i H x H' → Stb K H H' ∧ Sim K ρ G H' ∧ RU K ρ H' u x
def tiF (K : KZ) (W : WX) (f : Ev → Gp → R Src) : TI := fun σ H Rr => ∃ ρ G env, Sim K ρ G H ∧ REq K ρ H env σ ∧ match f env G with
  | .ok src G' => ∀ ρ' H' J, ρ <+: ρ' → Stb K H H' → Sim K ρ' G' H' → Wk K ρ' H' src J → Rr J H'
  | .exc c fs G' => ∀ d vfs ρ' H', ρ <+: ρ' → Stb K H H' → Sim K ρ' G' H' → H' d = some (.xd vfs) → RFs K ρ' H' fs vfs → W (.ref (He.ga K.K c)) (some d) σ H'
  | .bad => False
abbrev FI (X : Cx) (Z : ZZ X.K) (W : WX) (tg e : Expr) (f : Ev → Gp → R Src) : Prop := PI X tg e (tiF (kz X Z) W f)
theorem PIimp {X : Cx} {tg e : Expr} {t t' : TI} (h : PI X tg e t) (i : ∀ σ H Q, t' σ H Q → t σ H Q) : PI X tg e t' := ⟨fun pins s σ H Q I q => h.run pins s σ H Q I (i σ H Q q)⟩

/-! sources made of values: k tells the source, the heap as it was -/
def iOf (f : Ev → Gp → R U) (k : U → Gp → Option Src) : Ev → Gp → R Src := fun env G => (f env G).bind fun u G1 => match k u G1 with
  | some src => .ok src G1
  | none => .bad
theorem iStep {K : KZ} {W : WX} {f : Ev → Gp → R U} {k : U → Gp → Option Src} {σ : St} {H : Hp} {Q : It → Hp → Prop} (h : tiF K W (iOf f k) σ H Q) :
    tF K W f σ H fun v H1 => ∃ ρ1 G1 u src, Sim K ρ1 G1 H1 ∧ RU K ρ1 H1 u v ∧ k u G1 = some src ∧ ∀ J, Wk K ρ1 H1 src J → Q J H1 := by
  obtain ⟨ρ, G, env, S, e, h⟩ := h
  refine ⟨ρ, G, env, S, e, ?_⟩
  unfold iOf at h
  cases q : f env G with
  | ok u G1 =>
    rw [q] at h
    intro v ρ1 H1 p s S1 r
    have h : (match (match k u G1 with
      | some src => R.ok src G1
      | none => R.bad : R Src) with
      | .ok src G' => ∀ ρ' H' J, ρ <+: ρ' → Stb K H H' → Sim K ρ' G' H' → Wk K ρ' H' src J → Q J H'
      | .exc c fs G' => ∀ d vfs ρ' H', ρ <+: ρ' → Stb K H H' → Sim K ρ' G' H' → H' d = some (.xd vfs) → RFs K ρ' H' fs vfs → W (.ref (He.ga K.K c)) (some d) σ H'
      | .bad => False) := h
    cases qk : k u G1 with
    | none => rw [qk] at h; exact h.elim
    | some src => rw [qk] at h; exact ⟨ρ1, G1, u, src, S1, r, qk, fun J w => h ρ1 H1 J p s S1 w⟩
  | exc c fs G1 => rw [q] at h; exact fun d vfs ρ' H' p s S' e1 e2 => h d vfs ρ' H' p s S' e1 e2
  | bad => rw [q] at h; exact h
/-- a list, a tuple as it stands -/
def kSeq (u : U) (G : Gp) : Option Src := match u with
  | .tup xs => some (.items xs)
  | .rl xs => some (.items xs)
  | .ref l => match G[l]? with
    | some (.lst xs) => some (.live (xs.length + 1) fun i G => match G[l]? with
      | some (.lst ys) => some ys[i]?
      | _ => none)
    | _ => none
  | _ => none
theorem Sim.list {K : KZ} {ρ : List Addr} {G : Gp} {H : Hp} (S : Sim K ρ G H) {l : Nat} {a : Addr} {xs : List U} (ha : ρ[l]? = some a) (hl : G[l]? = some (.lst xs)) : ∃ vs, H a = some (.lst vs) ∧ RUs K ρ H xs vs := by
  obtain ⟨ho, e, r⟩ := S.ob l _ a hl ha
  cases ho <;> first | exact r.elim | exact ⟨_, e, r⟩
theorem wk_tup {K : KZ} {ρ : List Addr} {H : Hp} {xs : List U} {vs : List V} {a : Addr} (h : TupAt K H a vs) (r : RUs K ρ H xs vs) : Wk K ρ H (.items xs) (Itt K.K a) := by
  intro ρ' H' G i p s S
  show match some xs[i]? with
    | none => True
    | some none => (Itt K.K a).stop i H'
    | some (some u) => (Itt K.K a).go i H' ∧ ∀ x H'', (Itt K.K a).yld i H' x H'' → Stb K H' H'' ∧ Sim K ρ' G H'' ∧ RU K ρ' H'' u x
  have h' := (s.tupAt h).sq
  cases q : xs[i]? with
  | none => exact ⟨vs, h', by rw [← r.len]; exact List.getElem?_eq_none_iff.mp q⟩
  | some u =>
    obtain ⟨v, e, rv⟩ := r.getU q
    refine ⟨⟨vs, v, h', e⟩, fun x H'' y => ?_⟩
    obtain ⟨rfl, y⟩ := y
    have := y vs h'
    rw [e] at this; cases this
    exact ⟨Stb.refl, S, rv.mono p s⟩
theorem wk_rl {K : KZ} {ρ : List Addr} {H : Hp} {xs : List U} {vs : List V} {a : Addr} (h : RLs K H a vs) (r : RUs K ρ H xs vs) : Wk K ρ H (.items xs) (Itl K.K a) := by
  intro ρ' H' G i p s S
  show match some xs[i]? with
    | none => True
    | some none => (Itl K.K a).stop i H'
    | some (some u) => (Itl K.K a).go i H' ∧ ∀ x H'', (Itl K.K a).yld i H' x H'' → Stb K H' H'' ∧ Sim K ρ' G H'' ∧ RU K ρ' H'' u x
  have h' := (s.rls h).sq
  cases q : xs[i]? with
  | none => exact ⟨vs, h', by rw [← r.len]; exact List.getElem?_eq_none_iff.mp q⟩
  | some u =>
    obtain ⟨v, e, rv⟩ := r.getU q
    refine ⟨⟨vs, v, h', e⟩, fun x H'' y => ?_⟩
    obtain ⟨rfl, y⟩ := y
    have := y vs h'
    rw [e] at this; cases this
    exact ⟨Stb.refl, S, rv.mono p s⟩
theorem wk_live {K : KZ} {ρ : List Addr} {H : Hp} {l : Nat} {a : Addr} {n : Nat} (ha : ρ[l]? = some a) : Wk K ρ H (.live n fun i G => match G[l]? with
      | some (.lst ys) => some ys[i]?
      | _ => none) (Itl K.K a) := by
  intro ρ' H' G i p s S
  show match (match G[l]? with
      | some (.lst ys) => some ys[i]?
      | _ => none : Option (Option U)) with
    | none => True
    | some none => (Itl K.K a).stop i H'
    | some (some u) => (Itl K.K a).go i H' ∧ ∀ x H'', (Itl K.K a).yld i H' x H'' → Stb K H' H'' ∧ Sim K ρ' G H'' ∧ RU K ρ' H'' u x
  cases q : G[l]? with
  | none => trivial
  | some o =>
    cases o with
    | lst ys =>
      obtain ⟨vs, e, r⟩ := S.list (pre_get p ha) q
      show match some ys[i]? with
        | none => True
        | some none => (Itl K.K a).stop i H'
        | some (some u) => (Itl K.K a).go i H' ∧ ∀ x H'', (Itl K.K a).yld i H' x H'' → Stb K H' H'' ∧ Sim K ρ' G H'' ∧ RU K ρ' H'' u x
      cases q2 : ys[i]? with
      | none => exact ⟨vs, SqL.of e, by rw [← r.len]; exact List.getElem?_eq_none_iff.mp q2⟩
      | some u =>
        obtain ⟨v, e2, rv⟩ := r.getU q2
        refine ⟨⟨vs, v, SqL.of e, e2⟩, fun x H'' y => ?_⟩
        obtain ⟨rfl, y⟩ := y
        have := y vs (SqL.of e)
        rw [e2] at this; cases this
        exact ⟨Stb.refl, S, rv⟩
    | _ => trivial
section
variable {X : Cx} {Z : ZZ X.K} {W : WX} {tg e : Expr} {f : Ev → Gp → R U} {pos : Pos}
/-- both iterables at once: a list or a tuple -/
def iSeqA (K : PySem.W.Frag) (t : TE) : TI := fun σ H Q => t σ H fun x H1 => ∃ a, x = .ref a ∧ (((∃ xs, SqL K H1 a xs) ∧ Q (Itl K a) H1) ∨ ((∃ xs, SqT K H1 a xs) ∧ Q (Itt K a) H1))
theorem pi_seqA {t : TE} (he : PE X e t) : PI X tg e (iSeqA X.K t) := by
  refine ⟨fun pins s σ H Rr I h => ?_⟩
  refine thn (he.run pins s σ H _ I h) fun v s1 ⟨x, H1, I1, r1, q1⟩ => ?_
  obtain ⟨a, rfl, q1⟩ := q1
  cases r1
  rcases q1 with ⟨⟨xs, hq⟩, q⟩ | ⟨⟨xs, hq⟩, q⟩
  · obtain ⟨its, rv, p, hz⟩ := I1.list hq
    refine wpAny_pyIter_list p.isList ?_
    refine ⟨s1.heap.objs.size, [s1.heap.objs.size], _, _, H1, rfl, I1.kept (t' := s1.toks) fun b o e => Heap.get?_push_of_some _ e, turn_list a _, ⟨_, Heap.get?_push_size _ rfl, rfl, rfl⟩, fun b hb => ?_, q⟩
    have e : b = s1.heap.objs.size := by simpa using hb
    subst e
    exact I1.fpOk (Nat.le_refl _) (I1.hok.fresh (Nat.le_refl _))
  · obtain ⟨its, rv, p, hz⟩ := I1.tuple hq
    refine wpAny_pyIter_tuple (show s1.heap.IsTuple a its.toArray from p) ?_
    refine ⟨s1.heap.objs.size, [s1.heap.objs.size], _, _, H1, rfl, I1.kept (t' := s1.toks) fun b o e => Heap.get?_push_of_some _ e, turn_tuple a _, ⟨_, Heap.get?_push_size _ rfl, rfl, rfl⟩, fun b hb => ?_, q⟩
    have e : b = s1.heap.objs.size := by simpa using hb
    subst e
    exact I1.fpOk (Nat.le_refl _) (I1.hok.fresh (Nat.le_refl _))
theorem fiseq (he : FE X Z W e f) : FI X Z W tg e (iOf f kSeq) := by
  refine PIimp (pi_seqA he) fun σ H Q h => ?_
  refine tG_mono (iStep h) fun v H1 ⟨ρ1, G1, u, src, S1, r1, hk, q⟩ => ?_
  cases r1 with
  | tup ht hr => cases hk; exact ⟨_, rfl, .inr ⟨⟨_, ht.sq⟩, q _ (wk_tup ht hr)⟩⟩
  | rl ht hr => cases hk; exact ⟨_, rfl, .inl ⟨⟨_, ht.sq⟩, q _ (wk_rl ht hr)⟩⟩
  | @ref l a ha =>
    unfold kSeq at hk
    simp only at hk
    cases q2 : G1[l]? with
    | none => rw [q2] at hk; exact nomatch hk
    | some o =>
      rw [q2] at hk
      cases o with
      | lst xs =>
        cases hk
        obtain ⟨vs, e, r⟩ := S1.list ha q2
        exact ⟨_, rfl, .inl ⟨⟨_, SqL.of e⟩, q _ (wk_live ha)⟩⟩
      | _ => exact nomatch hk
  | _ => exact nomatch hk
/-! ranges -/
def kRng1 (us : List U) (G : Gp) : Option Src := match us with
  | [.int j] => if -(2 ^ 62) ≤ j ∧ j < 2 ^ 62 then some (.live (j.toNat + 1) fun i _ => some (if i < j.toNat then some (.int (0 + (i : Nat))) else none)) else none
  | _ => none
def kRng2 (us : List U) (G : Gp) : Option Src := match us with
  | [.int i0, .int j] => if -(2 ^ 62) ≤ i0 ∧ i0 < 2 ^ 62 ∧ -(2 ^ 62) ≤ j ∧ j < 2 ^ 62 then some (.live ((j - i0).toNat + 1) fun i _ => some (if i < (j - i0).toNat then some (.int (i0 + (i : Nat))) else none)) else none
  | _ => none
def iOfs (f : Ev → Gp → R (List U)) (k : List U → Gp → Option Src) : Ev → Gp → R Src := fun env G => (f env G).bind fun us G1 => match k us G1 with
  | some src => .ok src G1
  | none => .bad
theorem iSteps {K : KZ} {W : WX} {f : Ev → Gp → R (List U)} {k : List U → Gp → Option Src} {σ : St} {H : Hp} {Q : It → Hp → Prop} (h : tiF K W (iOfs f k) σ H Q) :
    taF K W f σ H fun vs H1 => ∃ ρ1 G1 us src, Sim K ρ1 G1 H1 ∧ RUs K ρ1 H1 us vs ∧ k us G1 = some src ∧ ∀ J, Wk K ρ1 H1 src J → Q J H1 := by
  obtain ⟨ρ, G, env, S, e, h⟩ := h
  refine ⟨ρ, G, env, S, e, ?_⟩
  unfold iOfs at h
  cases q : f env G with
  | ok u G1 =>
    rw [q] at h
    intro v ρ1 H1 p s S1 r
    have h : (match (match k u G1 with
      | some src => R.ok src G1
      | none => R.bad : R Src) with
      | .ok src G' => ∀ ρ' H' J, ρ <+: ρ' → Stb K H H' → Sim K ρ' G' H' → Wk K ρ' H' src J → Q J H'
      | .exc c fs G' => ∀ d vfs ρ' H', ρ <+: ρ' → Stb K H H' → Sim K ρ' G' H' → H' d = some (.xd vfs) → RFs K ρ' H' fs vfs → W (.ref (He.ga K.K c)) (some d) σ H'
      | .bad => False) := h
    cases qk : k u G1 with
    | none => rw [qk] at h; exact h.elim
    | some src => rw [qk] at h; exact ⟨ρ1, G1, u, src, S1, r, qk, fun J w => h ρ1 H1 J p s S1 w⟩
  | exc c fs G1 => rw [q] at h; exact fun d vfs ρ' H' p s S' e1 e2 => h d vfs ρ' H' p s S' e1 e2
  | bad => rw [q] at h; exact h
theorem wk_rng {K : KZ} {ρ : List Addr} {H : Hp} {lo : Int} {n m : Nat} : Wk K ρ H (.live m fun i _ => some (if i < n then some (.int (lo + (i : Nat))) else none)) (Itr lo n) := by
  intro ρ' H' G i p s S
  show match some (if i < n then some (U.int (lo + (i : Nat))) else none) with
    | none => True
    | some none => (Itr lo n).stop i H'
    | some (some u) => (Itr lo n).go i H' ∧ ∀ x H'', (Itr lo n).yld i H' x H'' → Stb K H' H'' ∧ Sim K ρ' G H'' ∧ RU K ρ' H'' u x
  by_cases hi : i < n
  · rw [if_pos hi]
    refine ⟨hi, fun x H'' y => ?_⟩
    obtain ⟨rfl, rfl⟩ := y
    exact ⟨Stb.refl, S, .int _⟩
  · rw [if_neg hi]; exact Nat.le_of_not_lt hi
theorem RUs.one {K : KZ} {ρ : List Addr} {H : Hp} {x : U} {vs : List V} (r : RUs K ρ H [x] vs) : ∃ v, vs = [v] ∧ RU K ρ H x v := by
  cases r with
  | cons h t => cases t; exact ⟨_, rfl, h⟩
theorem RUs.two {K : KZ} {ρ : List Addr} {H : Hp} {x y : U} {vs : List V} (r : RUs K ρ H [x, y] vs) : ∃ v w, vs = [v, w] ∧ RU K ρ H x v ∧ RU K ρ H y w := by
  cases r with
  | cons h t => obtain ⟨w, rfl, h2⟩ := t.one; exact ⟨_, _, rfl, h, h2⟩
theorem fir1 {a : Expr} {fa : Ev → Gp → R (List U)} {p : Pos} (hg : Gl X "range") (hm : X.mg "range" = none) (ha : FA X Z W [a] fa) (hs : starEach [a] X.env = [(false, eval a X.env)] := by rfl) : FI X Z W tg (.Call (.Name "range" p) [a] [] pos) (iOfs fa kRng1) := by
  refine PIimp (pi_range1 hg hm ha hs) fun σ H Q h => ?_
  refine tG_mono (iSteps h) fun vs H1 ⟨ρ1, G1, us, src, S1, r1, hk, q⟩ => ?_
  unfold kRng1 at hk
  split at hk
  · rename_i j
    split at hk
    · rename_i hj
      cases hk
      obtain ⟨v, rfl, rv⟩ := r1.one
      cases rv
      exact ⟨j, rfl, hj.1, hj.2, q _ wk_rng⟩
    · exact nomatch hk
  · exact nomatch hk
theorem fir2 {a b : Expr} {fa : Ev → Gp → R (List U)} {p : Pos} (hg : Gl X "range") (hm : X.mg "range" = none) (ha : FA X Z W [a, b] fa) (hs : starEach [a, b] X.env = [(false, eval a X.env), (false, eval b X.env)] := by rfl) (hs2 : starEach [b] X.env = [(false, eval b X.env)] := by rfl) :
    FI X Z W tg (.Call (.Name "range" p) [a, b] [] pos) (iOfs fa kRng2) := by
  refine PIimp (pi_range2 hg hm ha hs hs2) fun σ H Q h => ?_
  refine tG_mono (iSteps h) fun vs H1 ⟨ρ1, G1, us, src, S1, r1, hk, q⟩ => ?_
  unfold kRng2 at hk
  split at hk
  · rename_i i j
    split at hk
    · rename_i hj
      cases hk
      obtain ⟨v, w, rfl, rv, rw'⟩ := r1.two
      cases rv
      cases rw'
      exact ⟨i, j, rfl, hj, q _ wk_rng⟩
    · exact nomatch hk
  · exact nomatch hk
end

/-! ### for, while -/
def forN (nth : Nat → Gp → Option (Option U)) (gf : U → Ev → Gp → R Ev) (body : Ev → Gp → SR) : Nat → Nat → Ev → Gp → SR
  | 0, _, _, _ => .bad
  | n + 1, i, env, G => match nth i G with
    | none => .bad
    | some none => .nx env G
    | some (some u) => (gf u env G).andThen env fun env1 G1 => match body env1 G1 with
      | .nx env' G' => forN nth gf body n (i + 1) env' G'
      | .ct env' G' => forN nth gf body n (i + 1) env' G'
      | .brk env' G' => .nx env' G'
      | r => r
/-- over written items -/
def forL (gf : U → Ev → Gp → R Ev) (body : Ev → Gp → SR) : List U → Ev → Gp → SR
  | [], env, G => .nx env G
  | u :: us, env, G => (gf u env G).andThen env fun env1 G1 => match body env1 G1 with
    | .nx env' G' => forL gf body us env' G'
    | .ct env' G' => forL gf body us env' G'
    | .brk env' G' => .nx env' G'
    | r => r
def sFor (fi : Ev → Gp → R Src) (gf : U → Ev → Gp → R Ev) (body : Ev → Gp → SR) : Ev → Gp → SR := fun env G => (fi env G).andThen env fun src G1 => match src with
  | .items xs => forL gf body xs env G1
  | .live n nth => forN nth gf body n 0 env G1
theorem forL_drop {gf : U → Ev → Gp → R Ev} {body : Ev → Gp → SR} {xs : List U} : ∀ (m i : Nat) (env : Ev) (G : Gp), m = xs.length + 1 - i → i ≤ xs.length → forN (fun i _ => some xs[i]?) gf body m i env G = forL gf body (xs.drop i) env G := by
  intro m
  induction m with
  | zero => intro i env G h1 h2; omega
  | succ m ih =>
    intro i env G h1 h2
    by_cases hi : i < xs.length
    · have e : xs.drop i = xs[i] :: xs.drop (i + 1) := List.drop_eq_getElem_cons hi
      rw [e]
      show (match some xs[i]? with
        | none => SR.bad
        | some none => .nx env G
        | some (some u) => _) = _
      rw [List.getElem?_eq_getElem hi]
      show (gf xs[i] env G).andThen env _ = (gf xs[i] env G).andThen env _
      congr 1
      funext env1 G1
      cases q : body env1 G1 with
      | nx env' G' => exact ih (i + 1) env' G' (by omega) hi
      | ct env' G' => exact ih (i + 1) env' G' (by omega) hi
      | _ => rfl
    · have e : i = xs.length := by omega
      subst e
      rw [List.drop_length]
      show (match some xs[xs.length]? with
        | none => SR.bad
        | some none => .nx env G
        | some (some u) => _) = _
      rw [List.getElem?_eq_none (Nat.le_refl _)]
      rfl
def Src.nth (s : Src) : Nat → Gp → Option (Option U) := fun i G => s.at_ i G
theorem sFor_run {src : Src} {gf : U → Ev → Gp → R Ev} {body : Ev → Gp → SR} {env : Ev} {G1 : Gp} : (match src with
  | .items xs => forL gf body xs env G1
  | .live n nth => forN nth gf body n 0 env G1) = forN src.nth gf body src.fuel 0 env G1 := by
  cases src with
  | items xs =>
    show forL gf body xs env G1 = forN (fun i _ => some xs[i]?) gf body (xs.length + 1) 0 env G1
    rw [forL_drop (xs.length + 1) 0 env G1 (by omega) (Nat.zero_le _)]
    rfl
  | live n nth => rfl
section
variable {X : Cx} {Z : ZZ X.K} {W : WX} {tg e c : Expr} {body : List Stmt} {fi : Ev → Gp → R Src} {gf : U → Ev → Gp → R Ev} {g : Ev → Gp → SR} {fc : Ev → Gp → R Bool} {pos : Pos}
theorem fsfor (hp : PassesOwn (model X.prog X.w) X.A X.env X.xe) (hc : X.calm = true) (hi : FI X Z W tg e fi) (hg : FG X Z tg gf) (nx : NoX gf) (hb : FSs X Z W body g) (hs : ∀ x, foldedSetIterable e X.env x = pure x := by intro _; rfl) :
    FS X Z W (.For tg e body [] pos) (sFor fi gf g) := by
  refine PSimp (ps_for hp hc hi hg hb hs) fun D σ H ⟨ρ, G, env, S, e, h⟩ => ?_
  refine ⟨ρ, G, env, S, e, ?_⟩
  unfold sFor at h
  cases q : fi env G with
  | bad => rw [q] at h; exact h
  | exc c fs G1 => rw [q] at h; exact fun d vfs ρ' H' p s S' e1 e2 => h σ d vfs ρ' H' p s S' (e.mono p s) e1 e2
  | ok src G1 =>
    rw [q] at h
    have h : PostS (kz X Z) ρ H (forN src.nth gf g src.fuel 0 env G1) D W := by rw [← sFor_run]; exact h
    intro ρ1 H1 J p1 s1 S1 wk
    refine ⟨fun i m σ H => ∃ ρ2 G2 env2, ρ1 <+: ρ2 ∧ Stb (kz X Z) H1 H ∧ Sim (kz X Z) ρ2 G2 H ∧ REq (kz X Z) ρ2 H env2 σ ∧ PostS (kz X Z) ρ2 H (forN src.nth gf g m i env2 G2) D W, ⟨src.fuel, ρ1, G1, env, pre_refl, Stb.refl, S1, e.mono p1 s1, h.lift p1 s1⟩, ?_⟩
    rintro i m σ2 H2 ⟨ρ2, G2, env2, p2, s2, S2, e2, h2⟩
    cases m with
    | zero => exact h2.elim
    | succ m =>
      have w := wk ρ2 H2 G2 i p2 s2 S2
      unfold forN at h2
      have en : src.nth i G2 = src.at_ i G2 := rfl
      rw [en] at h2
      cases qn : src.at_ i G2 with
      | none => rw [qn] at h2; exact h2.elim
      | some o =>
        rw [qn] at h2 w
        cases o with
        | none => exact .inl ⟨w, h2.nx_ S2 e2⟩
        | some u =>
          refine .inr ⟨w.1, fun σ' H' => ∃ ρ3 G3 env3, ρ1 <+: ρ3 ∧ Stb (kz X Z) H1 H' ∧ Sim (kz X Z) ρ3 G3 H' ∧ REq (kz X Z) ρ3 H' env3 σ' ∧ PostS (kz X Z) ρ3 H' (forN src.nth gf g m (i + 1) env3 G3) D W, fun σ' H' z => ⟨m, Nat.lt_succ_self m, z⟩, fun x H3 y => ?_⟩
          obtain ⟨s3, S3, rx⟩ := w.2 x H3 y
          have h3 := h2.lift pre_refl s3
          refine ⟨ρ2, G2, env2, u, S3, e2.mono pre_refl s3, rx, ?_⟩
          have h3 : PostS (kz X Z) ρ2 H3 ((gf u env2 G2).andThen env2 fun env1 G1 => match g env1 G1 with
            | .nx env' G' => forN src.nth gf g m (i + 1) env' G'
            | .ct env' G' => forN src.nth gf g m (i + 1) env' G'
            | .brk env' G' => .nx env' G'
            | r => r) D W := h3
          cases qg : gf u env2 G2 with
          | bad => rw [qg] at h3; exact h3
          | exc c fs G' => exact absurd qg (nx u env2 G2 c fs G')
          | ok env3 G3 =>
            rw [qg] at h3
            intro σ4 ρ4 H4 p4 s4 S4 e4
            refine ⟨ρ4, G3, env3, S4, e4, ?_⟩
            have h4 : PostS (kz X Z) ρ4 H4 (match g env3 G3 with
              | .nx env' G' => forN src.nth gf g m (i + 1) env' G'
              | .ct env' G' => forN src.nth gf g m (i + 1) env' G'
              | .brk env' G' => .nx env' G'
              | r => r) D W := h3.lift p4 s4
            have pp : ρ1 <+: ρ4 := p2.trans p4
            have ss : Stb (kz X Z) H1 H4 := (s2.trans s3).trans s4
            cases qb : g env3 G3 with
            | nx env' G' => rw [qb] at h4; exact fun σ' ρ' H' p s S' e' => ⟨ρ', G', env', pp.trans p, ss.trans s, S', e', h4.lift p s⟩
            | ct env' G' => rw [qb] at h4; exact fun σ' ρ' H' p s S' e' => ⟨ρ', G', env', pp.trans p, ss.trans s, S', e', h4.lift p s⟩
            | brk env' G' => rw [qb] at h4; exact fun σ' ρ' H' p s S' e' => h4 σ' ρ' H' p s S' e'
            | ret u G' => rw [qb] at h4; exact h4
            | exc c fs env' G' => rw [qb] at h4; exact h4
            | bad => rw [qb] at h4; exact h4
end
/-- while: n bounds the turns -/
def whileN (fc : Ev → Gp → R Bool) (body : Ev → Gp → SR) : Nat → Ev → Gp → SR
  | 0, _, _ => .bad
  | n + 1, env, G => (fc env G).andThen env fun b G1 => if b = true then (match body env G1 with
      | .nx env' G' => whileN fc body n env' G'
      | .ct env' G' => whileN fc body n env' G'
      | .brk env' G' => .nx env' G'
      | r => r) else .nx env G1
section
variable {X : Cx} {Z : ZZ X.K} {W : WX} {c : Expr} {body : List Stmt} {g : Ev → Gp → SR} {fc : Ev → Gp → R Bool} {pos : Pos}
theorem fswhile (n : Nat) (hp : PassesOwn (model X.prog X.w) X.A X.env X.xe) (hc : FT X Z W c fc) (hb : FSs X Z W body g) : FS X Z W (.While c body [] pos) (whileN fc g n) := by
  refine PSimp (ps_while hp hc hb) fun D σ H ⟨ρ, G, env, S, e, h⟩ => ?_
  refine ⟨fun m σ' H' => ∃ ρ2 G2 env2, ρ <+: ρ2 ∧ Stb (kz X Z) H H' ∧ Sim (kz X Z) ρ2 G2 H' ∧ REq (kz X Z) ρ2 H' env2 σ' ∧ PostS (kz X Z) ρ2 H' (whileN fc g m env2 G2) D W, ⟨n, ρ, G, env, pre_refl, Stb.refl, S, e, h⟩, ?_⟩
  rintro m σ2 H2 ⟨ρ2, G2, env2, p2, s2, S2, e2, h2⟩
  cases m with
  | zero => exact h2.elim
  | succ m =>
    unfold whileN at h2
    refine tG_mono (stepS (rel := fun _ _ a b => a = b) S2 e2 h2) fun b H3 ⟨ρ3, G3, x, p3, s3, S3, e3, r3, h3⟩ => ?_
    subst r3
    cases x with
    | false => exact h3.nx_ S3 e3
    | true =>
      rw [if_pos rfl]
      have h3 : PostS (kz X Z) ρ3 H3 (match g env2 G3 with
        | .nx env' G' => whileN fc g m env' G'
        | .ct env' G' => whileN fc g m env' G'
        | .brk env' G' => .nx env' G'
        | r => r) D W := h3
      refine ⟨fun σ' H' => ∃ ρ4 G4 env4, ρ <+: ρ4 ∧ Stb (kz X Z) H H' ∧ Sim (kz X Z) ρ4 G4 H' ∧ REq (kz X Z) ρ4 H' env4 σ' ∧ PostS (kz X Z) ρ4 H' (whileN fc g m env4 G4) D W, fun σ' H' z => ⟨m, Nat.lt_succ_self m, z⟩, ρ3, G3, env2, S3, e3, ?_⟩
      have pp : ρ <+: ρ3 := p2.trans p3
      have ss : Stb (kz X Z) H H3 := s2.trans s3
      cases qb : g env2 G3 with
      | nx env' G' => rw [qb] at h3; exact fun σ' ρ' H' p s S' e' => ⟨ρ', G', env', pp.trans p, ss.trans s, S', e', h3.lift p s⟩
      | ct env' G' => rw [qb] at h3; exact fun σ' ρ' H' p s S' e' => ⟨ρ', G', env', pp.trans p, ss.trans s, S', e', h3.lift p s⟩
      | brk env' G' => rw [qb] at h3; exact fun σ' ρ' H' p s S' e' => h3 σ' ρ' H' p s S' e'
      | ret u G' => rw [qb] at h3; exact h3
      | exc c fs env' G' => rw [qb] at h3; exact h3
      | bad => rw [qb] at h3; exact h3
end
end FL

set_option Elab.async false
set_option linter.all false
set_option maxRecDepth 100000
set_option maxHeartbeats 4000000
set_option autoImplicit false
namespace FL
open PySem PySem.Spec L2

/-! ### ints -/
def mulOk (i j : Int) : Bool := decide (i.natAbs < 2 ^ 64) || decide (j.natAbs < 2 ^ 64) || decide (Builtin.Int.intBits i + Builtin.Int.intBits j ≤ 134217728)
def gAdd (x y : U) (G : Gp) : R U := match x, y with
  | .int i, .int j => .ok (.int (i + j)) G
  | .str a, .str b => if a.length + b.length ≤ 16777216 then .ok (.str (a ++ b)) G else .bad
  | .tup a, .tup b => if a.length + b.length ≤ 16777216 then .ok (.tup (a ++ b)) G else .bad
  | .ref l, .ref m => match G[l]?, G[m]? with
    | some (.lst a), some (.lst b) => if a.length + b.length ≤ 16777216 then .ok (.ref G.length) (G ++ [.lst (a ++ b)]) else .bad
    | _, _ => .bad
  | _, _ => .bad
def gSub (x y : U) (G : Gp) : R U := match x, y with
  | .int i, .int j => .ok (.int (i - j)) G
  | _, _ => .bad
def gMul (x y : U) (G : Gp) : R U := match x, y with
  | .int i, .int j => if mulOk i j = true then .ok (.int (i * j)) G else .bad
  | .ref l, .int k => match G[l]? with
    | some (.lst a) => if -(2 ^ 63) ≤ k ∧ k < 2 ^ 63 ∧ a.length * k.toNat ≤ 16777216 then .ok (.ref G.length) (G ++ [.lst (List.replicate k.toNat a).flatten]) else .bad
    | _ => .bad
  | _, _ => .bad
def gFdiv (x y : U) (G : Gp) : R U := match x, y with
  | .int i, .int j => if 0 < j ∧ j.natAbs < 2 ^ 1000 then .ok (.int (i / j)) G else .bad
  | _, _ => .bad
def gMod (x y : U) (G : Gp) : R U := match x, y with
  | .int i, .int j => if 0 < j then .ok (.int (i % j)) G else .bad
  | _, _ => .bad
def gPow (x y : U) (G : Gp) : R U := match x, y with
  | .int i, .int j => if 0 ≤ j ∧ j ≤ 1000000 ∧ i.natAbs < 2 ^ 64 then .ok (.int (i ^ j.toNat)) G else .bad
  | _, _ => .bad
def gNeg (x : U) (G : Gp) : R U := match x with
  | .int i => .ok (.int (-i)) G
  | _ => .bad
section
variable {K : KZ}
theorem natAbs_64 {i : Int} (h : i.natAbs < 2 ^ 64) : -(2 ^ 64) < i ∧ i < 2 ^ 64 := by
  have e : (2 : Nat) ^ 64 = 18446744073709551616 := by decide
  have e2 : (2 : Int) ^ 64 = 18446744073709551616 := by decide
  rw [e] at h
  rw [e2]
  omega
def rAddA (K : PySem.W.Frag) : R2 := fun x y H Q => (((rI0 fun i j => .int (i + j)) x y H Q ∨ (∃ i j, x = .str i ∧ y = .str j ∧ i.length + j.length ≤ sizeLine ∧ Q (.str (i ++ j)) H)) ∨ rCatA K x y H Q) ∨ rCat x y H Q
theorem orAdd {X : Cx} : OpR X (binaryOp .Add) (rAddA X.K) := ((op_add.or op_add_str).or op_catA).or op_cat
theorem o2Add : Op2 K (rAddA K.K) gAdd := by
  intro ρ G H x y v w Q E S rx ry h
  cases rx with
  | int i =>
    cases ry with
    | int j => exact .inl (.inl (.inl ⟨i, j, rfl, rfl, h.end_ S (.int _)⟩))
    | _ => exact h.elim
  | str a =>
    cases ry with
    | str b =>
      unfold gAdd at h
      simp only at h
      by_cases hl : a.length + b.length ≤ 16777216
      · rw [if_pos hl] at h
        exact .inl (.inl (.inr ⟨a, b, rfl, rfl, by rw [line_eq]; exact hl, h.end_ S (.str _)⟩))
      · rw [if_neg hl] at h; exact h.elim
    | _ => exact h.elim
  | @tup xs vs p hp hr =>
    cases ry with
    | @tup ys ws q hq hs =>
      unfold gAdd at h
      simp only at h
      by_cases hl : xs.length + ys.length ≤ 16777216
      · rw [if_pos hl] at h
        refine .inl (.inr ⟨p, q, vs, ws, rfl, rfl, hp.sq, hq.sq, by rw [← hr.len, ← hs.len, line_eq]; exact hl, fun e => ?_, fun _ e => ?_, fun _ _ => newTup S (hr.append hs) h⟩)
        · subst e
          cases hr
          exact h.end_ S (.tup hq hs)
        · subst e
          cases hs
          rw [List.append_nil] at h
          exact h.end_ S (.tup hp hr)
      · rw [if_neg hl] at h; exact h.elim
    | _ => exact h.elim
  | @ref l p hp =>
    cases ry with
    | @ref m q hq =>
      unfold gAdd at h
      simp only at h
      cases e1 : G[l]? with
      | none => simp only [e1] at h; exact h.elim
      | some o1 =>
        cases e2 : G[m]? with
        | none => simp only [e1, e2] at h; cases o1 <;> exact h.elim
        | some o2 =>
          simp only [e1, e2] at h
          cases o1 with
          | lst a =>
            cases o2 with
            | lst b =>
              simp only at h
              by_cases hl : a.length + b.length ≤ 16777216
              · rw [if_pos hl] at h
                obtain ⟨vs, h1, r1⟩ := S.list hp e1
                obtain ⟨ws, h2, r2⟩ := S.list hq e2
                exact .inr ⟨p, q, vs, ws, rfl, rfl, h1, h2, by rw [← r1.len, ← r2.len, line_eq]; exact hl, newLst S (r1.append r2) h⟩
              · rw [if_neg hl] at h; exact h.elim
            | _ => exact h.elim
          | _ => exact h.elim
    | _ => exact h.elim
  | _ => exact h.elim
theorem o2Sub : Op2 K (rI0 fun i j => .int (i - j)) gSub := by
  intro ρ G H x y v w Q E S rx ry h
  cases rx with
  | int i =>
    cases ry with
    | int j => exact ⟨i, j, rfl, rfl, h.end_ S (.int _)⟩
    | _ => exact h.elim
  | _ => exact h.elim
def rMulA : R2 := fun x y H Q => (rI CMul (fun i j => .int (i * j)) x y H Q ∨ rI CMulX (fun i j => .int (i * j)) x y H Q) ∨ rRep x y H Q
theorem orMul {X : Cx} : OpR X (binaryOp .Mult) rMulA := (op_mul.or op_mulX).or op_rep
theorem flatten_rel {ρ : List Addr} {H : Hp} {a : List U} {vs : List V} (r : RUs K ρ H a vs) : ∀ n : Nat, RUs K ρ H (List.replicate n a).flatten (List.replicate n vs).flatten
  | 0 => .nil
  | n + 1 => by
    rw [List.replicate_succ, List.replicate_succ, List.flatten_cons, List.flatten_cons]
    exact r.append (flatten_rel r n)
theorem o2Mul : Op2 K rMulA gMul := by
  intro ρ G H x y v w Q E S rx ry h
  cases rx with
  | int i =>
    cases ry with
    | int j =>
      unfold gMul at h
      simp only at h
      by_cases hm : mulOk i j = true
      · rw [if_pos hm] at h
        have q := h.end_ S (.int _)
        unfold mulOk at hm
        rw [Bool.or_eq_true, Bool.or_eq_true] at hm
        rcases hm with (hm | hm) | hm
        · exact .inl (.inl ⟨i, j, rfl, rfl, .inl (natAbs_64 (of_decide_eq_true hm)), q⟩)
        · exact .inl (.inl ⟨i, j, rfl, rfl, .inr (natAbs_64 (of_decide_eq_true hm)), q⟩)
        · exact .inl (.inr ⟨i, j, rfl, rfl, by have := of_decide_eq_true hm; unfold CMulX; omega, q⟩)
      · rw [if_neg hm] at h; exact h.elim
    | _ => exact h.elim
  | @ref l p hp =>
    cases ry with
    | int k =>
      unfold gMul at h
      simp only at h
      cases e1 : G[l]? with
      | none => simp only [e1] at h; exact h.elim
      | some o1 =>
        simp only [e1] at h
        cases o1 with
        | lst a =>
          simp only at h
          by_cases hk : -(2 ^ 63) ≤ k ∧ k < 2 ^ 63 ∧ a.length * k.toNat ≤ 16777216
          · rw [if_pos hk] at h
            obtain ⟨vs, h1, r1⟩ := S.list hp e1
            exact .inr ⟨p, k, vs, rfl, rfl, h1, hk.1, hk.2.1, by rw [← r1.len, line_eq]; exact hk.2.2, newLst S (flatten_rel r1 _) h⟩
          · rw [if_neg hk] at h; exact h.elim
        | _ => exact h.elim
    | _ => exact h.elim
  | _ => exact h.elim
theorem o2Fdiv : Op2 K (rI CDivW fun i j => .int (i / j)) gFdiv := by
  intro ρ G H x y v w Q E S rx ry h
  cases rx with
  | int i =>
    cases ry with
    | int j =>
      unfold gFdiv at h
      simp only at h
      by_cases hj : 0 < j ∧ j.natAbs < 2 ^ 1000
      · rw [if_pos hj] at h
        exact ⟨i, j, rfl, rfl, wide_div hj.1 hj.2 (by decide) (by decide), h.end_ S (.int _)⟩
      · rw [if_neg hj] at h; exact h.elim
    | _ => exact h.elim
  | _ => exact h.elim
theorem o2Mod : Op2 K (rI (fun _ j => 0 < j) fun i j => .int (i % j)) gMod := by
  intro ρ G H x y v w Q E S rx ry h
  cases rx with
  | int i =>
    cases ry with
    | int j =>
      unfold gMod at h
      simp only at h
      by_cases hj : 0 < j
      · rw [if_pos hj] at h
        exact ⟨i, j, rfl, rfl, hj, h.end_ S (.int _)⟩
      · rw [if_neg hj] at h; exact h.elim
    | _ => exact h.elim
  | _ => exact h.elim
theorem o2Pow : Op2 K (rI CPow fun i j => .int (i ^ j.toNat)) gPow := by
  intro ρ G H x y v w Q E S rx ry h
  cases rx with
  | int i =>
    cases ry with
    | int j =>
      unfold gPow at h
      simp only at h
      by_cases hj : 0 ≤ j ∧ j ≤ 1000000 ∧ i.natAbs < 2 ^ 64
      · rw [if_pos hj] at h
        exact ⟨i, j, rfl, rfl, hj, h.end_ S (.int _)⟩
      · rw [if_neg hj] at h; exact h.elim
    | _ => exact h.elim
  | _ => exact h.elim
theorem o1Neg : Op1 K (rU fun i => .int (-i)) gNeg := by
  intro ρ G H x v Q E S rx h
  cases rx with
  | int i => exact ⟨i, rfl, h.end_ S (.int _)⟩
  | _ => exact h.elim
end
section
variable {X : Cx} {Z : ZZ X.K} {W : WX} {a b : Expr} {fa fb : Ev → Gp → R U} {pos : Pos}
theorem fadd (ha : FE X Z W a fa) (hb : FE X Z W b fb) : FE X Z W (.BinOp a .Add b pos) (eBin gAdd fa fb) := fop o2Add orAdd ha hb
theorem fsub (ha : FE X Z W a fa) (hb : FE X Z W b fb) : FE X Z W (.BinOp a .Sub b pos) (eBin gSub fa fb) := fop o2Sub op_sub ha hb
theorem fmul (ha : FE X Z W a fa) (hb : FE X Z W b fb) : FE X Z W (.BinOp a .Mult b pos) (eBin gMul fa fb) := fop o2Mul orMul ha hb
theorem ffdiv (ha : FE X Z W a fa) (hb : FE X Z W b fb) : FE X Z W (.BinOp a .FloorDiv b pos) (eBin gFdiv fa fb) := fop o2Fdiv op_fdivW ha hb
theorem fmod (ha : FE X Z W a fa) (hb : FE X Z W b fb) : FE X Z W (.BinOp a .Mod b pos) (eBin gMod fa fb) := fop o2Mod op_mod ha hb
theorem fpow (ha : FE X Z W a fa) (hb : FE X Z W b fb) : FE X Z W (.BinOp a .Pow b pos) (eBin gPow fa fb) := fop o2Pow op_pow ha hb
theorem fneg (ha : FE X Z W a fa) : FE X Z W (.UnaryOp .USub a pos) (eUn gNeg fa) := fun1 o1Neg un_neg ha
end

/-! ### comparisons -/
def gCmpI (p : Int → Int → Bool) (x y : U) (G : Gp) : R U := match x, y with
  | .int i, .int j => .ok (.bl (p i j)) G
  | _, _ => .bad
def scalEq : U → U → Option Bool
  | .non, .non => some true | .non, .int _ => some false | .int _, .non => some false | .non, .bl _ => some false | .bl _, .non => some false | .non, .str _ => some false | .str _, .non => some false
  | .int i, .int j => some (decide (i = j)) | .bl i, .bl j => some (decide (i = j)) | .str i, .str j => some (decide (i = j))
  | .int _, .str _ => some false | .str _, .int _ => some false | .bl _, .str _ => some false | .str _, .bl _ => some false
  | _, _ => none
def optAll {α β : Type} (f : α → Option β) : List α → Option (List β)
  | [] => some []
  | x :: xs => match f x, optAll f xs with
    | some y, some ys => some (y :: ys)
    | _, _ => none
def toD (G : Gp) : Nat → U → Option PyData
  | _, .non => some .none
  | _, .bl b => some (.bool b)
  | _, .int i => some (.int i)
  | _, .str x => some (.str x)
  | 0, _ => none
  | n + 1, .tup xs => (optAll (toD G n) xs).map .tuple
  | n + 1, .rl xs => (optAll (toD G n) xs).map .list
  | n + 1, .ref l => match G[l]? with
    | some (.lst xs) => (optAll (toD G n) xs).map .list
    | _ => none
def eqU (G : Gp) (x y : U) : Option Bool := match scalEq x y with
  | some b => some b
  | none => match toD G 40 x, toD G 40 y with
    | some d, some e => if SeqAt.shaped d = true ∧ SeqAt.shaped e = true then some (PyData.eqv d e) else none
    | _, _ => none
def gEq (x y : U) (G : Gp) : R U := match eqU G x y with
  | some b => .ok (.bl b) G
  | none => .bad
def gNe (x y : U) (G : Gp) : R U := match eqU G x y with
  | some b => .ok (.bl (!b)) G
  | none => .bad
section
variable {K : KZ} {ρ : List Addr} {G : Gp} {H : Hp}
theorem o2CmpI {p : Int → Int → Bool} : Op2 K (rI0 fun i j => .bl (p i j)) (gCmpI p) := by
  intro ρ G H x y v w Q E S rx ry h
  cases rx with
  | int i =>
    cases ry with
    | int j => exact ⟨i, j, rfl, rfl, h.end_ S (.bl _)⟩
    | _ => exact h.elim
  | _ => exact h.elim
theorem scalEq_ok {x y : U} {v w : V} (rx : RU K ρ H x v) (ry : RU K ρ H y w) {b : Bool} (h : scalEq x y = some b) : scal v w = true ∧ decide (v = w) = b := by
  cases rx <;> cases ry <;> first
    | (cases h; done)
    | (cases h; exact ⟨rfl, rfl⟩)
    | (cases h; refine ⟨rfl, ?_⟩; simp)
theorem optAll_ok {f : U → Option PyData} (hf : ∀ x v d, RU K ρ H x v → f x = some d → Dp K.K H v d) : ∀ {xs : List U} {vs : List V} {ds : List PyData}, RUs K ρ H xs vs → optAll f xs = some ds → DpAll K.K H vs ds
  | _, _, ds, .nil, h => by cases h; exact .nil
  | _, _, ds, .cons (x := x) (xs := xs) hx ht, h => by
    unfold optAll at h
    cases e1 : f x with
    | none => rw [e1] at h; exact nomatch h
    | some y =>
      cases e2 : optAll f xs with
      | none => rw [e1, e2] at h; exact nomatch h
      | some ys => rw [e1, e2] at h; cases h; exact .cons (hf _ _ _ hx e1) (optAll_ok hf ht e2)
theorem toD_ok (S : Sim K ρ G H) : ∀ (n : Nat) (x : U) (v : V) (d : PyData), RU K ρ H x v → toD G n x = some d → Dp K.K H v d := by
  intro n
  induction n with
  | zero =>
    intro x v d r h
    cases r <;> first
      | (cases h; done)
      | (cases h; constructor)
  | succ n ih =>
    intro x v d r h
    cases r with
    | tup hp hr =>
      unfold toD at h
      cases e : optAll (toD G n) _ with
      | none => rw [e] at h; exact nomatch h
      | some ds => rw [e] at h; cases h; exact .tup hp.sq (optAll_ok ih hr e)
    | rl hp hr =>
      unfold toD at h
      cases e : optAll (toD G n) _ with
      | none => rw [e] at h; exact nomatch h
      | some ds => rw [e] at h; cases h; exact .lst hp.sq (optAll_ok ih hr e)
    | @ref l a ha =>
      unfold toD at h
      cases q : G[l]? with
      | none => rw [q] at h; exact nomatch h
      | some o =>
        rw [q] at h
        cases o with
        | lst xs =>
          simp only at h
          obtain ⟨vs, e1, r1⟩ := S.list ha q
          cases e : optAll (toD G n) xs with
          | none => rw [e] at h; exact nomatch h
          | some ds => rw [e] at h; cases h; exact .lst (SqL.of e1) (optAll_ok ih r1 e)
        | _ => exact nomatch h
    | _ => cases h; constructor
def rEqA (K : PySem.W.Frag) : R2 := fun x y H Q => rEq x y H Q ∨ rEqD K x y H Q
def rNeA (K : PySem.W.Frag) : R2 := fun x y H Q => rNe x y H Q ∨ rNeD K x y H Q
theorem orEq {X : Cx} (hu : X.A.units + 64 < cLine) : OpR X (compareOp .Eq) (rEqA X.K) := op_eq.or (op_eqD hu)
theorem orNe {X : Cx} (hu : X.A.units + 64 < cLine) : OpR X (compareOp .NotEq) (rNeA X.K) := op_ne.or (op_neD hu)
theorem eqU_ok (S : Sim K ρ G H) {x y : U} {v w : V} (rx : RU K ρ H x v) (ry : RU K ρ H y w) {b : Bool} (h : eqU G x y = some b) :
    (scal v w = true ∧ decide (v = w) = b) ∨ ∃ d e, Dp K.K H v d ∧ Dp K.K H w e ∧ SeqAt.shaped d = true ∧ SeqAt.shaped e = true ∧ PyData.eqv d e = b := by
  unfold eqU at h
  cases q : scalEq x y with
  | some c => rw [q] at h; cases h; exact .inl (scalEq_ok rx ry q)
  | none =>
    rw [q] at h
    simp only at h
    cases e1 : toD G 40 x with
    | none => rw [e1] at h; exact nomatch h
    | some d =>
      cases e2 : toD G 40 y with
      | none => rw [e1, e2] at h; exact nomatch h
      | some e =>
        rw [e1, e2] at h
        simp only at h
        by_cases hs : SeqAt.shaped d = true ∧ SeqAt.shaped e = true
        · rw [if_pos hs] at h
          cases h
          exact .inr ⟨d, e, toD_ok S _ _ _ _ rx e1, toD_ok S _ _ _ _ ry e2, hs.1, hs.2, rfl⟩
        · rw [if_neg hs] at h; exact nomatch h
theorem o2Eq : Op2 K (rEqA K.K) gEq := by
  intro ρ G H x y v w Q E S rx ry h
  unfold gEq at h
  cases q : eqU G x y with
  | none => rw [q] at h; exact h.elim
  | some b =>
    rw [q] at h
    have e := h.end_ S (.bl b)
    rcases eqU_ok S rx ry q with ⟨h1, h2⟩ | ⟨d, d', h1, h2, h3, h4, h5⟩
    · exact .inl ⟨h1, by rw [h2]; exact e⟩
    · exact .inr ⟨d, d', h1, h2, h3, h4, by rw [h5]; exact e⟩
theorem o2Ne : Op2 K (rNeA K.K) gNe := by
  intro ρ G H x y v w Q E S rx ry h
  unfold gNe at h
  cases q : eqU G x y with
  | none => rw [q] at h; exact h.elim
  | some b =>
    rw [q] at h
    have e := h.end_ S (.bl (!b))
    rcases eqU_ok S rx ry q with ⟨h1, h2⟩ | ⟨d, d', h1, h2, h3, h4, h5⟩
    · exact .inl ⟨h1, by rw [h2]; exact e⟩
    · exact .inr ⟨d, d', h1, h2, h3, h4, by rw [h5]; exact e⟩
/-! is None -/
def gIsN (x y : U) (G : Gp) : R U := match y with
  | .non => .ok (.bl (match x with
    | .non => true
    | _ => false)) G
  | _ => .bad
def gNotN (x y : U) (G : Gp) : R U := match y with
  | .non => .ok (.bl (match x with
    | .non => false
    | _ => true)) G
  | _ => .bad
theorem o2IsN : Op2 K (fun x y H Q => y = .non ∧ Q (.bl (decide (x = .non))) H) gIsN := by
  intro ρ G H x y v w Q E S rx ry h
  cases ry with
  | non => cases rx <;> exact ⟨rfl, h.end_ S (.bl _)⟩
  | _ => exact h.elim
theorem o2NotN : Op2 K (fun x y H Q => y = .non ∧ Q (.bl (!decide (x = .non))) H) gNotN := by
  intro ρ G H x y v w Q E S rx ry h
  cases ry with
  | non => cases rx <;> exact ⟨rfl, h.end_ S (.bl _)⟩
  | _ => exact h.elim
/-! in: flat things in a list or a tuple -/
def flatU : U → Bool
  | .non => true | .bl _ => true | .int _ => true | .str _ => true
  | _ => false
def eqF : U → U → Bool
  | .non, .non => true
  | .bl a, .bl b => a == b
  | .bl a, .int b => (if a then 1 else 0) == b
  | .int a, .bl b => a == (if b then 1 else 0)
  | .int a, .int b => a == b
  | .str a, .str b => a == b
  | _, _ => false
def seqU (G : Gp) (u : U) : Option (List U) := match u with
  | .tup xs => some xs
  | .rl xs => some xs
  | .ref l => match G[l]? with
    | some (.lst xs) => some xs
    | _ => none
  | _ => none
def gIn (neg : Bool) (x y : U) (G : Gp) : R U := match seqU G y with
  | some xs => if flatU x = true ∧ xs.all flatU = true then .ok (.bl (if neg then !(xs.any fun y => eqF y x) else xs.any fun y => eqF y x)) G else .bad
  | none => .bad
theorem seqU_ok (S : Sim K ρ G H) {y : U} {w : V} (ry : RU K ρ H y w) {xs : List U} (h : seqU G y = some xs) : ∃ p vs, w = .ref p ∧ (SqL K.K H p vs ∨ SqT K.K H p vs) ∧ RUs K ρ H xs vs := by
  cases ry with
  | tup hp hr => cases h; exact ⟨_, _, rfl, .inr hp.sq, hr⟩
  | rl hp hr => cases h; exact ⟨_, _, rfl, .inl hp.sq, hr⟩
  | @ref l a ha =>
    unfold seqU at h
    simp only at h
    cases q : G[l]? with
    | none => rw [q] at h; exact nomatch h
    | some o =>
      rw [q] at h
      cases o with
      | lst ys =>
        cases h
        obtain ⟨vs, e1, r1⟩ := S.list ha q
        exact ⟨_, _, rfl, .inl (SqL.of e1), r1⟩
      | _ => exact nomatch h
  | _ => exact nomatch h
theorem flat_rel {x : U} {v : V} (r : RU K ρ H x v) (h : flatU x = true) : flatV v = true := by
  cases r <;> first | rfl | (cases h; done)
theorem flats_rel : ∀ {xs : List U} {vs : List V}, RUs K ρ H xs vs → xs.all flatU = true → vs.all flatV = true
  | _, _, .nil, _ => rfl
  | _, _, .cons h t, e => by
    rw [List.all_cons, Bool.and_eq_true] at e ⊢
    exact ⟨flat_rel h e.1, flats_rel t e.2⟩
theorem eqF_rel {x y : U} {v w : V} (rx : RU K ρ H x v) (ry : RU K ρ H y w) (hx : flatU x = true) (hy : flatU y = true) : eqV v w = eqF x y := by
  cases rx <;> first | (cases hx; done) | (cases ry <;> first | rfl | (cases hy; done))
theorem inV_rel {x : U} {v : V} (rx : RU K ρ H x v) (hx : flatU x = true) : ∀ {xs : List U} {vs : List V}, RUs K ρ H xs vs → xs.all flatU = true → inV v vs = xs.any fun y => eqF y x
  | _, _, .nil, _ => rfl
  | _, _, .cons (x := y) (v := w) (xs := ys) (vs := ws) h t, e => by
    rw [List.all_cons, Bool.and_eq_true] at e
    have ih := inV_rel rx hx t e.2
    unfold inV at ih ⊢
    rw [List.any_cons, List.any_cons, ih, eqF_rel h rx e.1 hx]
theorem o2In {neg : Bool} : Op2 K (rIn K.K neg) (gIn neg) := by
  intro ρ G H x y v w Q E S rx ry h
  unfold gIn at h
  cases q : seqU G y with
  | none => rw [q] at h; exact h.elim
  | some xs =>
    rw [q] at h
    simp only at h
    by_cases hf : flatU x = true ∧ xs.all flatU = true
    · rw [if_pos hf] at h
      obtain ⟨p, vs, rfl, hq, hr⟩ := seqU_ok S ry q
      refine ⟨p, vs, rfl, hq, flat_rel rx hf.1, flats_rel hr hf.2, ?_⟩
      rw [inV_rel rx hf.1 hr hf.2]
      exact h.end_ S (.bl _)
    · rw [if_neg hf] at h; exact h.elim
end
section
variable {X : Cx} {Z : ZZ X.K} {W : WX} {a b c : Expr} {fa fb fc : Ev → Gp → R U} {pos : Pos}
/-- the chain a op b op' c -/
def eChain (g g' : U → U → Gp → R U) (fa fb fc : Ev → Gp → R U) : Ev → Gp → R U := fun env G => (fa env G).bind fun x G1 => (fb env G1).bind fun y G2 => (asB (g x y G2)).bind fun k G3 => if k = true then (fc env G3).bind fun z G4 => g' y z G4 else .ok (.bl false) G3
theorem tChain_of {K : KZ} {W : WX} {r r' : R2} {g g' : U → U → Gp → R U} (o : Op2 K r g) (o' : Op2 K r' g') (σ : St) (H : Hp) (Q : VK) (h : tF K W (eChain g g' fa fb fc) σ H Q) : tChain r r' (tF K W fa) (tF K W fb) (tF K W fc) σ H Q := by
  obtain ⟨ρ, G, env, S, e, h⟩ := h
  refine tG_mono (step S e h) fun v H1 ⟨ρ1, G1, x, p1, s1, S1, e1, r1, h1⟩ => tG_mono (step S1 e1 h1) fun w H2 ⟨ρ2, G2, y, p2, s2, S2, e2, r2, h2⟩ => ?_
  refine o ρ2 G2 H2 x y v w _ (fun c d H' => W c d σ H') S2 (r1.mono p2 s2) r2 ?_
  have h2 : Post K (RU K) ρ2 H2 ((asB (g x y G2)).bind fun k G3 => if k = true then (fc env G3).bind fun z G4 => g' y z G4 else .ok (.bl false) G3) Q fun c d H' => W c d σ H' := h2
  cases q : g x y G2 with
  | bad => rw [q] at h2; exact h2
  | exc c fs G3 => rw [q] at h2; exact h2
  | ok u G3 =>
    rw [q] at h2
    intro v3 ρ3 H3 p3 s3 S3 r3
    cases r3 with
    | bl k =>
      refine ⟨k, rfl, ?_⟩
      have h3 : Post K (RU K) ρ3 H3 (if k = true then (fc env G3).bind fun z G4 => g' y z G4 else .ok (.bl false) G3) Q fun c d H' => W c d σ H' := Post.lift h2 p3 s3
      cases k with
      | false => exact h3.end_ S3 (.bl _)
      | true =>
        rw [if_pos rfl]
        rw [if_pos rfl] at h3
        exact tG_mono (step S3 (e2.mono p3 s3) h3) fun w4 H4 ⟨ρ4, G4, z, p4, s4, S4, e4, r4, h4⟩ => o' _ _ _ _ _ _ _ _ _ S4 ((r2.mono p3 s3).mono p4 s4) r4 h4
    | _ => exact h2.elim
theorem fchain {op op' : CmpOp} {r r' : R2} {g g' : U → U → Gp → R U} (o : Op2 (kz X Z) r g) (o' : Op2 (kz X Z) r' g') (ho : OpR X (compareOp op) r) (ho' : OpR X (compareOp op') r') (ha : FE X Z W a fa) (hb : FE X Z W b fb) (hc : FE X Z W c fc)
    (hm : lastMarks [op, op'] [b, c] = false := by with_unfolding_all rfl) : FE X Z W (.Compare a [op, op'] [b, c] pos) (eChain g g' fa fb fc) := PEimp (pe_chain ho ho' ha hb hc hm) (tChain_of o o')
theorem ftchain {op op' : CmpOp} {r r' : R2} {g g' : U → U → Gp → R U} (o : Op2 (kz X Z) r g) (o' : Op2 (kz X Z) r' g') (ho : OpR X (compareOp op) r) (ho' : OpR X (compareOp op') r') (ha : FE X Z W a fa) (hb : FE X Z W b fb) (hc : FE X Z W c fc)
    (hm : lastMarks [op, op'] [b, c] = false := by with_unfolding_all rfl) : FT X Z W (.Compare a [op, op'] [b, c] pos) (bVal (eChain g g' fa fb fc)) := by
  refine PTimp (pt_chain ho ho' ha hb hc hm) fun σ H Q h => ?_
  exact tChain_of o o' σ H _ (tB_of σ H Q h)
end
section
variable {X : Cx} {Z : ZZ X.K} {W : WX} {a b c : Expr} {fa fb fc : Ev → Gp → R U} {pos : Pos}
abbrev gLt := gCmpI fun i j => decide (i < j)
abbrev gLe := gCmpI fun i j => decide (i ≤ j)
abbrev gGt := gCmpI fun i j => decide (j < i)
abbrev gGe := gCmpI fun i j => decide (j ≤ i)
/-! int comparisons, as tests and as values -/
theorem flt (ha : FE X Z W a fa) (hb : FE X Z W b fb) : FE X Z W (.Compare a [.Lt] [b] pos) (eBin gLt fa fb) := fcmp o2CmpI op_lt ha hb (nomark _)
theorem fle (ha : FE X Z W a fa) (hb : FE X Z W b fb) : FE X Z W (.Compare a [.LtE] [b] pos) (eBin gLe fa fb) := fcmp o2CmpI op_le ha hb (nomark _)
theorem fgt (ha : FE X Z W a fa) (hb : FE X Z W b fb) : FE X Z W (.Compare a [.Gt] [b] pos) (eBin gGt fa fb) := fcmp o2CmpI op_gt ha hb (nomark _)
theorem fge (ha : FE X Z W a fa) (hb : FE X Z W b fb) : FE X Z W (.Compare a [.GtE] [b] pos) (eBin gGe fa fb) := fcmp o2CmpI op_ge ha hb (nomark _)
theorem feq (hu : X.A.units + 64 < cLine) (ha : FE X Z W a fa) (hb : FE X Z W b fb) : FE X Z W (.Compare a [.Eq] [b] pos) (eBin gEq fa fb) := fcmp o2Eq (orEq hu) ha hb (nomark _)
theorem fne (hu : X.A.units + 64 < cLine) (ha : FE X Z W a fa) (hb : FE X Z W b fb) : FE X Z W (.Compare a [.NotEq] [b] pos) (eBin gNe fa fb) := fcmp o2Ne (orNe hu) ha hb (nomark _)
theorem fisN (ha : FE X Z W a fa) (hb : FE X Z W b fb) : FE X Z W (.Compare a [.Is] [b] pos) (eBin gIsN fa fb) := fcmp o2IsN op_isN ha hb (nomark _)
theorem fnotN (ha : FE X Z W a fa) (hb : FE X Z W b fb) : FE X Z W (.Compare a [.IsNot] [b] pos) (eBin gNotN fa fb) := fcmp o2NotN op_notN ha hb (nomark _)
theorem fin_ (ha : FE X Z W a fa) (hb : FE X Z W b fb) (hm : behindInMarks .In b = false := by rfl) : FE X Z W (.Compare a [.In] [b] pos) (eBin (gIn false) fa fb) := fcmp o2In op_in_seq ha hb hm
theorem fnin (ha : FE X Z W a fa) (hb : FE X Z W b fb) (hm : behindInMarks .NotIn b = false := by rfl) : FE X Z W (.Compare a [.NotIn] [b] pos) (eBin (gIn true) fa fb) := fcmp o2In op_notIn_seq ha hb hm
theorem tlt (ha : FE X Z W a fa) (hb : FE X Z W b fb) : FT X Z W (.Compare a [.Lt] [b] pos) (bVal (eBin gLt fa fb)) := ft_cmp o2CmpI op_lt ha hb (nomark _)
theorem tle (ha : FE X Z W a fa) (hb : FE X Z W b fb) : FT X Z W (.Compare a [.LtE] [b] pos) (bVal (eBin gLe fa fb)) := ft_cmp o2CmpI op_le ha hb (nomark _)
theorem tgt (ha : FE X Z W a fa) (hb : FE X Z W b fb) : FT X Z W (.Compare a [.Gt] [b] pos) (bVal (eBin gGt fa fb)) := ft_cmp o2CmpI op_gt ha hb (nomark _)
theorem tge (ha : FE X Z W a fa) (hb : FE X Z W b fb) : FT X Z W (.Compare a [.GtE] [b] pos) (bVal (eBin gGe fa fb)) := ft_cmp o2CmpI op_ge ha hb (nomark _)
theorem teq (hu : X.A.units + 64 < cLine) (ha : FE X Z W a fa) (hb : FE X Z W b fb) : FT X Z W (.Compare a [.Eq] [b] pos) (bVal (eBin gEq fa fb)) := ft_cmp o2Eq (orEq hu) ha hb (nomark _)
theorem tne (hu : X.A.units + 64 < cLine) (ha : FE X Z W a fa) (hb : FE X Z W b fb) : FT X Z W (.Compare a [.NotEq] [b] pos) (bVal (eBin gNe fa fb)) := ft_cmp o2Ne (orNe hu) ha hb (nomark _)
theorem tisN (ha : FE X Z W a fa) (hb : FE X Z W b fb) : FT X Z W (.Compare a [.Is] [b] pos) (bVal (eBin gIsN fa fb)) := ft_cmp o2IsN op_isN ha hb (nomark _)
theorem tnotN (ha : FE X Z W a fa) (hb : FE X Z W b fb) : FT X Z W (.Compare a [.IsNot] [b] pos) (bVal (eBin gNotN fa fb)) := ft_cmp o2NotN op_notN ha hb (nomark _)
theorem tin (ha : FE X Z W a fa) (hb : FE X Z W b fb) (hm : behindInMarks .In b = false := by rfl) : FT X Z W (.Compare a [.In] [b] pos) (bVal (eBin (gIn false) fa fb)) := ft_cmp o2In op_in_seq ha hb hm
theorem tnin (ha : FE X Z W a fa) (hb : FE X Z W b fb) (hm : behindInMarks .NotIn b = false := by rfl) : FT X Z W (.Compare a [.NotIn] [b] pos) (bVal (eBin (gIn true) fa fb)) := ft_cmp o2In op_notIn_seq ha hb hm
/-- a <= b <= c and its like -/
theorem fcleLe (ha : FE X Z W a fa) (hb : FE X Z W b fb) (hc : FE X Z W c fc) (hm : lastMarks [.LtE, .LtE] [b, c] = false := by with_unfolding_all rfl) : FE X Z W (.Compare a [.LtE, .LtE] [b, c] pos) (eChain gLe gLe fa fb fc) := fchain o2CmpI o2CmpI op_le op_le ha hb hc hm
theorem fcleLt (ha : FE X Z W a fa) (hb : FE X Z W b fb) (hc : FE X Z W c fc) (hm : lastMarks [.LtE, .Lt] [b, c] = false := by with_unfolding_all rfl) : FE X Z W (.Compare a [.LtE, .Lt] [b, c] pos) (eChain gLe gLt fa fb fc) := fchain o2CmpI o2CmpI op_le op_lt ha hb hc hm
theorem fcltLe (ha : FE X Z W a fa) (hb : FE X Z W b fb) (hc : FE X Z W c fc) (hm : lastMarks [.Lt, .LtE] [b, c] = false := by with_unfolding_all rfl) : FE X Z W (.Compare a [.Lt, .LtE] [b, c] pos) (eChain gLt gLe fa fb fc) := fchain o2CmpI o2CmpI op_lt op_le ha hb hc hm
theorem fcltLt (ha : FE X Z W a fa) (hb : FE X Z W b fb) (hc : FE X Z W c fc) (hm : lastMarks [.Lt, .Lt] [b, c] = false := by with_unfolding_all rfl) : FE X Z W (.Compare a [.Lt, .Lt] [b, c] pos) (eChain gLt gLt fa fb fc) := fchain o2CmpI o2CmpI op_lt op_lt ha hb hc hm
theorem tcleLe (ha : FE X Z W a fa) (hb : FE X Z W b fb) (hc : FE X Z W c fc) (hm : lastMarks [.LtE, .LtE] [b, c] = false := by with_unfolding_all rfl) : FT X Z W (.Compare a [.LtE, .LtE] [b, c] pos) (bVal (eChain gLe gLe fa fb fc)) := ftchain o2CmpI o2CmpI op_le op_le ha hb hc hm
theorem tcleLt (ha : FE X Z W a fa) (hb : FE X Z W b fb) (hc : FE X Z W c fc) (hm : lastMarks [.LtE, .Lt] [b, c] = false := by with_unfolding_all rfl) : FT X Z W (.Compare a [.LtE, .Lt] [b, c] pos) (bVal (eChain gLe gLt fa fb fc)) := ftchain o2CmpI o2CmpI op_le op_lt ha hb hc hm
theorem tcltLe (ha : FE X Z W a fa) (hb : FE X Z W b fb) (hc : FE X Z W c fc) (hm : lastMarks [.Lt, .LtE] [b, c] = false := by with_unfolding_all rfl) : FT X Z W (.Compare a [.Lt, .LtE] [b, c] pos) (bVal (eChain gLt gLe fa fb fc)) := ftchain o2CmpI o2CmpI op_lt op_le ha hb hc hm
theorem tcltLt (ha : FE X Z W a fa) (hb : FE X Z W b fb) (hc : FE X Z W c fc) (hm : lastMarks [.Lt, .Lt] [b, c] = false := by with_unfolding_all rfl) : FT X Z W (.Compare a [.Lt, .Lt] [b, c] pos) (bVal (eChain gLt gLt fa fb fc)) := ftchain o2CmpI o2CmpI op_lt op_lt ha hb hc hm
end
end FL

set_option Elab.async false
set_option linter.all false
set_option maxRecDepth 100000
set_option maxHeartbeats 4000000
set_option autoImplicit false
namespace FL
open PySem PySem.Spec L2

/-! ### items, slices -/
def gIdx (x y : U) (G : Gp) : R U := match y with
  | .int i => match x with
    | .str z => if z.length ≤ 16777216 then (match atI z.cps.toList i with
      | some c => .ok (.str ⟨#[c]⟩) G
      | none => .bad) else .bad
    | _ => match seqU G x with
      | some xs => match atI xs i with
        | some u => .ok u G
        | none => .bad
      | none => .bad
  | _ => .bad
section
variable {K : KZ} {ρ : List Addr} {G : Gp} {H : Hp}
theorem atI_rel {xs : List U} {vs : List V} (r : RUs K ρ H xs vs) {i : Int} {u : U} (h : atI xs i = some u) : ∃ v, atI vs i = some v ∧ RU K ρ H u v := by
  unfold atI at h ⊢
  rw [← r.len]
  cases q : ixN xs.length i with
  | none => rw [q] at h; exact nomatch h
  | some j =>
    rw [q] at h
    exact r.getU h
theorem o2Idx : Op2 K (rIx K.K) gIdx := by
  intro ρ G H x y v w Q E S rx ry h
  cases ry with
  | int i =>
    have sq : ∀ xs, seqU G x = some xs → gIdx x (.int i) G = (match atI xs i with
        | some u => .ok u G
        | none => .bad) → rIx K.K v (.int i) H Q := by
      intro xs hs hg
      rw [hg] at h
      obtain ⟨p, vs, rfl, hq, hr⟩ := seqU_ok S rx hs
      cases q : atI xs i with
      | none => rw [q] at h; exact h.elim
      | some u =>
        rw [q] at h
        obtain ⟨z, e, rz⟩ := atI_rel hr q
        have f := h.end_ S rz
        rcases hq with hq | hq
        · exact .inl ⟨p, vs, i, z, rfl, rfl, hq, e, f⟩
        · exact .inr (.inl ⟨p, vs, i, z, rfl, rfl, hq, e, f⟩)
    cases rx with
    | str z =>
      unfold gIdx at h
      simp only at h
      by_cases hl : z.length ≤ 16777216
      · rw [if_pos hl] at h
        cases q : atI z.cps.toList i with
        | none => rw [q] at h; exact h.elim
        | some c => rw [q] at h; exact .inr (.inr ⟨z, i, c, rfl, rfl, by rw [line_eq]; exact hl, q, h.end_ S (.str _)⟩)
      · rw [if_neg hl] at h; exact h.elim
    | @tup xs vs a ha hr => exact sq xs rfl rfl
    | @rl xs vs a ha hr => exact sq xs rfl rfl
    | @ref l a ha =>
      cases q : seqU G (.ref l) with
      | none => unfold gIdx at h; simp only [q] at h; exact h.elim
      | some xs => exact sq xs q (by unfold gIdx; simp only [q])
    | _ => exact h.elim
  | _ => cases x <;> exact h.elim
def cutU {α : Type} (xs : List α) (lo hi : Option Int) : List α := (xs.drop (HT.sIx xs.length 0 lo)).take (HT.sIx xs.length xs.length hi - HT.sIx xs.length 0 lo)
theorem cutU_rel {xs : List U} {vs : List V} (r : RUs K ρ H xs vs) (lo hi : Option Int) : RUs K ρ H (cutU xs lo hi) (cutV vs lo hi) := by
  unfold cutU cutV
  rw [r.len]
  exact (r.drop _).take _
def gSl (x : U) (lo hi : Option Int) (G : Gp) : R U := match x with
  | .str z => if z.length ≤ 16777216 then .ok (.str (cutS z lo hi)) G else .bad
  | .tup xs => .ok (.tup (cutU xs lo hi)) G
  | .rl xs => .ok (.ref G.length) (G ++ [.lst (cutU xs lo hi)])
  | .ref l => match G[l]? with
    | some (.lst xs) => .ok (.ref G.length) (G ++ [.lst (cutU xs lo hi)])
    | _ => .bad
  | _ => .bad
def rSlAll (K : PySem.W.Frag) : V → Option Int → Option Int → Hp → VK → Prop := fun x lo hi H Q => (rSlL K x lo hi H Q ∨ rSlA K x lo hi H Q) ∨ rSlS x lo hi H Q
theorem slAll {X : Cx} : SlR X (rSlAll X.K) := (sl_list.or sl_tupA).or sl_str
theorem oSl {x : U} {v : V} {lo hi : Option Int} {Q : VK} {E : XK} (S : Sim K ρ G H) (rx : RU K ρ H x v) (h : Post K (RU K) ρ H (gSl x lo hi G) Q E) : rSlAll K.K v lo hi H Q := by
  cases rx with
  | str z =>
    unfold gSl at h
    simp only at h
    by_cases hl : z.length ≤ 16777216
    · rw [if_pos hl] at h
      exact .inr ⟨z, rfl, by rw [line_eq]; exact hl, h.end_ S (.str _)⟩
    · rw [if_neg hl] at h; exact h.elim
  | @tup xs vs a ha hr =>
    refine .inl (.inr ⟨a, vs, rfl, ha.sq, fun z => ?_, fun _ => newTup S (cutU_rel hr lo hi) h⟩)
    have e : cutU xs lo hi = xs := by
      unfold cutU
      rw [hr.len, z.1, z.2]
      rw [List.drop_zero, Nat.sub_zero, ← hr.len, List.take_length]
    have h : Post K (RU K) ρ H (.ok (.tup (cutU xs lo hi)) G) Q E := h
    rw [e] at h
    exact h.end_ S (.tup ha hr)
  | @rl xs vs a ha hr => exact .inl (.inl ⟨a, vs, rfl, ha.sq, newLst S (cutU_rel hr lo hi) h⟩)
  | @ref l a ha =>
    unfold gSl at h
    simp only at h
    cases q : G[l]? with
    | none => rw [q] at h; exact h.elim
    | some o =>
      rw [q] at h
      cases o with
      | lst xs =>
        obtain ⟨vs, e1, r1⟩ := S.list ha q
        exact .inl (.inl ⟨a, vs, rfl, SqL.of e1, newLst S (cutU_rel r1 lo hi) h⟩)
      | _ => exact h.elim
  | _ => exact h.elim
end
/-! parts of a slice -/
def pNo : Ev → Gp → R (Option Int) := fun _ G => .ok none G
def pInt (f : Ev → Gp → R U) : Ev → Gp → R (Option Int) := fun env G => (f env G).bind fun u G1 => match u with
  | .int i => .ok (some i) G1
  | _ => .bad
def eSl (f : Ev → Gp → R U) (lo hi : Ev → Gp → R (Option Int)) : Ev → Gp → R U := fun env G => (f env G).bind fun x G1 => (lo env G1).bind fun l G2 => (hi env G2).bind fun h G3 => gSl x l h G3
abbrev FO (X : Cx) (Z : ZZ X.K) (W : WX) (e : Option Expr) (f : Ev → Gp → R (Option Int)) : Prop := PO X e (tG (kz X Z) (fun _ _ a b => a = b) W f)
theorem POimp {X : Cx} {e : Option Expr} {t t' : TO} (h : PO X e t) (i : ∀ σ H Q, t' σ H Q → t σ H Q) : PO X e t' := ⟨fun pins s σ H Q I q => h.run pins s σ H Q I (i σ H Q q)⟩
section
variable {X : Cx} {Z : ZZ X.K} {W : WX} {a b e : Expr} {fa fb f : Ev → Gp → R U} {lo hi : Ev → Gp → R (Option Int)} {l h : Option Expr} {pos p2 : Pos}
theorem fidx (ha : FE X Z W a fa) (hb : FE X Z W b fb) (hs : PlainIx b := by exact fun _ _ => rfl) : FE X Z W (.Subscript a b pos) (eBin gIdx fa fb) := PEimp (pe_ix ix_seq ha hb hs) (tOp_of o2Idx)
theorem fono : FO X Z W none pNo := POimp po_none fun σ H Q ⟨ρ, G, env, S, e, h⟩ => Post.end_ (rel := fun _ _ (a b : Option Int) => a = b) h S rfl
theorem foint (he : FE X Z W e f) : FO X Z W (some e) (pInt f) := by
  refine POimp (po_some he) fun σ H Q ⟨ρ, G, env, S, e, h⟩ => ?_
  refine tG_mono (step (rel' := fun _ _ (a b : Option Int) => a = b) S e h) fun v H1 ⟨ρ1, G1, x, p1, s1, S1, e1, r1, h1⟩ => ?_
  cases r1 with
  | int i => exact ⟨i, rfl, h1.end_ S1 rfl⟩
  | _ => exact h1.elim
theorem fslice (ha : FE X Z W a fa) (hl : FO X Z W l lo) (hh : FO X Z W h hi) : FE X Z W (.Subscript a (.Slice l h none p2) pos) (eSl fa lo hi) := by
  refine PEimp (pe_slice slAll ha hl hh) fun σ H Q ⟨ρ, G, env, S, e, h⟩ => ?_
  refine tG_mono (step S e h) fun v H1 ⟨ρ1, G1, x, p1, s1, S1, e1, r1, h1⟩ => ?_
  refine tG_mono (step (rel := fun _ _ (a b : Option Int) => a = b) S1 e1 h1) fun w H2 ⟨ρ2, G2, y, p2, s2, S2, e2, r2, h2⟩ => ?_
  subst r2
  refine tG_mono (step (rel := fun _ _ (a b : Option Int) => a = b) S2 e2 h2) fun w3 H3 ⟨ρ3, G3, z, p3, s3, S3, e3, r3, h3⟩ => ?_
  subst r3
  exact oSl S3 ((r1.mono p2 s2).mono p3 s3) h3
end

/-! ### stores into lists -/
def R.bindN {α β : Type} (r : R α) (k : α → Gp → R β) : R β := match r with
  | .ok a G => k a G
  | _ => .bad
def setU (o i v : U) (G : Gp) : R Unit := match o, i with
  | .ref l, .int k => match G[l]? with
    | some (.lst xs) => match ixN xs.length k with
      | some j => .ok () (G.set l (.lst (xs.set j v)))
      | none => .bad
    | _ => .bad
  | _, _ => .bad
def gSubE (fo fi : Ev → Gp → R U) : U → Ev → Gp → R Ev := fun v env G => (fo env G).bindN fun o G1 => (fi env G1).bindN fun i G2 => (setU o i v G2).bindN fun _ G3 => .ok env G3
section
variable {K : KZ} {ρ : List Addr} {G : Gp} {H : Hp}
/-- the list at l changes -/
theorem Sim.setList (S : Sim K ρ G H) {l : Nat} {a : Addr} {xs ys : List U} {vs ws : List V} (ha : ρ[l]? = some a) (e : H a = some (.lst vs)) (r : RUs K ρ H ys ws) : Sim K ρ (G.set l (.lst ys)) (upd H a (.lst ws)) ∧ Stb K H (upd H a (.lst ws)) := by
  have st : Stb K H (upd H a (.lst ws)) := stb_write e (fun _ z => nomatch z) (fun _ _ z => nomatch z) fun _ z => nomatch z
  exact ⟨S.write ha e (fun _ z => nomatch z) (fun _ _ z => nomatch z) (fun _ z => nomatch z) (show RUs K ρ _ ys ws from r.mono pre_refl st), st⟩
theorem ixN_rel {xs : List U} {vs : List V} (r : RUs K ρ H xs vs) (k : Int) : ixN vs.length k = ixN xs.length k := by rw [r.len]
theorem setU_ok {o i v : U} {ov iv vv : V} (S : Sim K ρ G H) (ro : RU K ρ H o ov) (ri : RU K ρ H i iv) (rv : RU K ρ H v vv) {Q : Hp → Prop} {G' : Gp} (h : setU o i v G = .ok () G')
    (q : ∀ H', Stb K H H' → Sim K ρ G' H' → Q H') : rSetL ov iv vv H Q := by
  unfold setU at h
  cases ro with
  | @ref l a ha =>
    cases ri with
    | int k =>
      simp only at h
      cases e1 : G[l]? with
      | none => rw [e1] at h; exact nomatch h
      | some ob =>
        rw [e1] at h
        cases ob with
        | lst xs =>
          simp only at h
          cases e2 : ixN xs.length k with
          | none => rw [e2] at h; exact nomatch h
          | some j =>
            rw [e2] at h
            cases h
            obtain ⟨vs, e3, r3⟩ := S.list ha e1
            obtain ⟨S', st⟩ := S.setList (xs := xs) ha e3 (r3.set rv j)
            exact ⟨a, vs, k, j, rfl, rfl, e3, by rw [ixN_rel r3]; exact e2, q _ st S'⟩
        | _ => exact nomatch h
    | _ => exact nomatch h
  | _ => cases ri <;> exact nomatch h
end
section
variable {X : Cx} {Z : ZZ X.K} {W : WX} {o i e : Expr} {fo fi f : Ev → Gp → R U} {pos : Pos}
theorem bindN_ok {α β : Type} {r : R α} {k : α → Gp → R β} {b : β} {G' : Gp} (h : r.bindN k = .ok b G') : ∃ a G1, r = .ok a G1 ∧ k a G1 = .ok b G' := by
  cases r with
  | ok a G1 => exact ⟨a, G1, rfl, h⟩
  | _ => exact nomatch h
theorem bindN_nx {α β : Type} {r : R α} {k : α → Gp → R β} {c : Str} {fs : List (Str × U)} {G' : Gp} (h : r.bindN k = .exc c fs G') : ∃ a G1, r = .ok a G1 ∧ k a G1 = .exc c fs G' := by
  cases r with
  | ok a G1 => exact ⟨a, G1, rfl, h⟩
  | _ => exact nomatch h
theorem nxSub {fo fi : Ev → Gp → R U} : NoX (gSubE fo fi) := fun u env G c fs G' h => by
  obtain ⟨a, G1, _, h⟩ := bindN_nx h
  obtain ⟨b, G2, _, h⟩ := bindN_nx h
  obtain ⟨d, G3, _, h⟩ := bindN_nx h
  exact nomatch h
/-- a reading of an expression whose value is known -/
theorem tF_ok {K : KZ} {W : WX} {f : Ev → Gp → R U} {σ : St} {H : Hp} {ρ : List Addr} {G G1 : Gp} {env : Ev} {u : U} {Q : VK} (S : Sim K ρ G H) (e : REq K ρ H env σ) (hf : f env G = .ok u G1)
    (q : ∀ v ρ1 H1, ρ <+: ρ1 → Stb K H H1 → Sim K ρ1 G1 H1 → RU K ρ1 H1 u v → Q v H1) : tF K W f σ H Q := ⟨ρ, G, env, S, e, by rw [hf]; exact q⟩
theorem fgsub (ho : FE X Z W o fo) (hi : FE X Z W i fi) (ha : ∀ v, assign (.Subscript o i pos) X.env v = (do
      let ov ← holding [v] (eval o X.env)
      let iv ← holding [v, ov] (eval i X.env)
      standAt pos
      holding [v, ov, iv] (setItem ov iv v)
      release [v, ov, iv] []) := by intro _; rfl) : FG X Z (.Subscript o i pos) (gSubE fo fi) := by
  refine PGimp (pg_sub ho hi set_list ha) fun v σ H Q ⟨ρ, G, env, u, S, e, r, h⟩ => ?_
  cases q : gSubE fo fi u env G with
  | bad => rw [q] at h; exact h.elim
  | exc c fs G' => exact absurd q (nxSub _ _ _ _ _ _)
  | ok env' G' =>
    rw [q] at h
    obtain ⟨a, G1, q1, q⟩ := bindN_ok q
    obtain ⟨b, G2, q2, q⟩ := bindN_ok q
    obtain ⟨d, G3, q3, q⟩ := bindN_ok q
    cases q
    refine tF_ok S e q1 fun ov ρ1 H1 p1 s1 S1 r1 => tF_ok S1 (e.mono p1 s1) q2 fun iv ρ2 H2 p2 s2 S2 r2 => ?_
    exact setU_ok S2 (r1.mono p2 s2) r2 ((r.mono p1 s1).mono p2 s2) q3 fun H3 s3 S3 => h σ ρ2 H3 (p1.trans p2) ((s1.trans s2).trans s3) S3 (((e.mono p1 s1).mono p2 s2).mono pre_refl s3)
end

/-! ### name op= e; o[i] op= e -/
def sAug (i : Nat) (g : U → U → Gp → R U) (f : Ev → Gp → R U) : Ev → Gp → SR := fun env G => (eVar i env G).andThen env fun x G0 => (f env G0).andThen env fun y G1 => (g x y G1).andThen env fun z G2 => .nx (env.set i (some z)) G2
theorem opS {K : KZ} {W : WX} {r : R2} {g : U → U → Gp → R U} (o : Op2 K r g) {ρ : List Addr} {G : Gp} {H : Hp} {x y : U} {v w : V} {env : Ev} {σ : St} {D : Ends} {k : U → Gp → SR} (S : Sim K ρ G H) (e : REq K ρ H env σ) (rx : RU K ρ H x v) (ry : RU K ρ H y w)
    (h : PostS K ρ H ((g x y G).andThen env k) D W) : r v w H fun z H1 => ∃ ρ1 G1 u, ρ <+: ρ1 ∧ Stb K H H1 ∧ Sim K ρ1 G1 H1 ∧ REq K ρ1 H1 env σ ∧ RU K ρ1 H1 u z ∧ PostS K ρ1 H1 (k u G1) D W := by
  refine o ρ G H x y v w _ (fun c d H' => W c d σ H') S rx ry ?_
  cases q : g x y G with
  | ok a G1 => rw [q] at h; exact fun b ρ1 H1 p s S1 r => ⟨ρ1, G1, a, p, s, S1, e.mono p s, r, h.lift p s⟩
  | exc c fs G1 => rw [q] at h; exact fun d vfs ρ' H' p s S1 q1 q2 => h σ d vfs ρ' H' p s S1 (e.mono p s) q1 q2
  | bad => rw [q] at h; exact h
section
variable {X : Cx} {Z : ZZ X.K} {W : WX} {o i e : Expr} {fo fi f : Ev → Gp → R U} {pos : Pos}
theorem fsaug {n : Nat} {x : Str} {op : Operator} {r : R2} {g : U → U → Gp → R U} {pos' : Pos} (og : Op2 (kz X Z) r g) (ho : OpR X (inplaceOp op) r) (hN : X.N.Nodup) (hi : X.N[n]? = some x) (hx : Loc X.env.scope x) (he : FE X Z W e f)
    (hf : X.fn x = true ∨ X.env.scope.names.lookup x = some .local := by first | exact .inl rfl | exact .inr rfl | assumption) : FS X Z W (.AugAssign (.Name x pos') op e pos) (sAug n g f) := by
  refine PSimp (ps_aug (ti := r) hN hi hx he (fun pins s σ H x y v u Q I rx ry h => ho pins s σ H x y v u Q I rx ry h) hf) fun D σ H ⟨ρ, G, env, S, e, h⟩ => ?_
  have h : PostS (kz X Z) ρ H ((eVar n env G).andThen env fun x G0 => (f env G0).andThen env fun y G1 => (g x y G1).andThen env fun z G2 => .nx (env.set n (some z)) G2) D W := h
  cases q : env[n]? with
  | none => simp only [eVar, q] at h; exact h.elim
  | some ox =>
    cases ox with
    | none => simp only [eVar, q] at h; exact h.elim
    | some u =>
      simp only [eVar, q] at h
      obtain ⟨v, e1, rv⟩ := e.get q
      refine ⟨v, e1, ?_⟩
      refine tG_mono (stepS S e h) fun w H1 ⟨ρ1, G1, y, p1, s1, S1, ee1, r1, h1⟩ => ?_
      have z := opS og S1 ee1 (rv.mono p1 s1) r1 h1
      refine og ρ1 G1 H1 u y v w _ (fun c d H' => W c d σ H') S1 (rv.mono p1 s1) r1 ?_
      cases q2 : g u y G1 with
      | ok a G2 => rw [q2] at h1; exact fun b ρ2 H2 p2 s2 S2 r2 => h1 _ ρ2 H2 p2 s2 S2 ((ee1.mono p2 s2).set r2 n)
      | exc c fs G2 => rw [q2] at h1; exact fun d vfs ρ' H' p s S1 z1 z2 => h1 σ d vfs ρ' H' p s S1 (ee1.mono p s) z1 z2
      | bad => rw [q2] at h1; exact h1
theorem fsaugAdd {n : Nat} {x : Str} {pos' : Pos} (hN : X.N.Nodup) (hi : X.N[n]? = some x) (hx : Loc X.env.scope x) (he : FE X Z W e f)
    (hf : X.fn x = true ∨ X.env.scope.names.lookup x = some .local := by first | exact .inl rfl | exact .inr rfl | assumption) : FS X Z W (.AugAssign (.Name x pos') .Add e pos) (sAug n (fun x y G => match x, y with
      | .int i, .int j => .ok (.int (i + j)) G
      | _, _ => .bad) f) := fsaug (r := rI0 fun i j => .int (i + j)) (fun ρ G H x y v w Q E S rx ry h => by
    cases rx with
    | int i =>
      cases ry with
      | int j => exact ⟨i, j, rfl, rfl, h.end_ S (.int _)⟩
      | _ => exact h.elim
    | _ => cases ry <;> exact h.elim) iop_add hN hi hx he hf
theorem fsaugSub {n : Nat} {x : Str} {pos' : Pos} (hN : X.N.Nodup) (hi : X.N[n]? = some x) (hx : Loc X.env.scope x) (he : FE X Z W e f)
    (hf : X.fn x = true ∨ X.env.scope.names.lookup x = some .local := by first | exact .inl rfl | exact .inr rfl | assumption) : FS X Z W (.AugAssign (.Name x pos') .Sub e pos) (sAug n gSub f) := fsaug o2Sub iop_sub hN hi hx he hf
end

/-! ### calls of built-ins by values -/
def OpN (K : KZ) (r : List V → Hp → VK → Prop) (g : List U → Gp → R U) : Prop := ∀ ρ G H us vs Q E, Sim K ρ G H → RUs K ρ H us vs → Post K (RU K) ρ H (g us G) Q E → r vs H Q
def eCall (g : List U → Gp → R U) (fa : Ev → Gp → R (List U)) : Ev → Gp → R U := fun env G => (fa env G).bind g
section
variable {X : Cx} {Z : ZZ X.K} {W : WX} {x : Str} {p pos : Pos} {e : Expr} {es : List Expr} {fa : Ev → Gp → R (List U)} {g : List U → Gp → R U} {r : List V → Hp → VK → Prop} {id T : String}
theorem tCB_of {K : KZ} {W : WX} (o : OpN K r g) (σ : St) (H : Hp) (Q : VK) (h : tF K W (eCall g fa) σ H Q) : tCB r (taF K W fa) σ H Q := by
  obtain ⟨ρ, G, env, S, e, h⟩ := h
  exact tG_mono (step (rel := RUs K) S e h) fun v H1 ⟨ρ1, G1, x, p1, s1, S1, e1, r1, h1⟩ => o _ _ _ _ _ _ _ S1 r1 h1
theorem fcallB (o : OpN (kz X Z) r g) (hc : CallR X (.builtin id) r) (hg : Gl X x) (hm : X.mg x = none) (hv : bootBuiltins x = some (.builtin id)) (ha : FA X Z W (e :: es) fa) (hn : x ≠ "__name__" := by decide) (hdb : (x == ("__debug__" : Str)) = false := by decide)
    (he : starEach (e :: es) X.env = (false, eval e X.env) :: starEach es X.env := by rfl) (hpl : (backTo pos (starEach es X.env)).any (·.1) = false := by rfl) : FE X Z W (.Call (.Name x p) (e :: es) [] pos) (eCall g fa) := PEimp (pe_callB hc hg hm hv ha hn hdb he hpl) (tCB_of o)
theorem fcallTy (o : OpN (kz X Z) r g) (hc : CallR X (.type T) r) (hg : Gl X x) (hm : X.mg x = none) (hv : bootBuiltins x = some (.type T)) (ha : FA X Z W (e :: es) fa) (hn : x ≠ "__name__" := by decide) (hdb : (x == ("__debug__" : Str)) = false := by decide)
    (he : starEach (e :: es) X.env = (false, eval e X.env) :: starEach es X.env := by rfl) (hpl : (backTo pos (starEach es X.env)).any (·.1) = false := by rfl) : FE X Z W (.Call (.Name x p) (e :: es) [] pos) (eCall g fa) := PEimp (pe_callTy hc hg hm hv ha hn hdb he hpl) (tCB_of o)
end
/-! len -/
def bLen (us : List U) (G : Gp) : R U := match us with
  | [.str z] => if z.length ≤ 16777216 then .ok (.int z.length) G else .bad
  | [u] => match seqU G u with
    | some xs => .ok (.int xs.length) G
    | none => .bad
  | _ => .bad
def rLenA (K : PySem.W.Frag) : List V → Hp → VK → Prop := fun xs H Q => ∃ x n, xs = [x] ∧ LenV K x H n ∧ Q (.int n) H
theorem oLen {K : KZ} : OpN K (rLenA K.K) bLen := by
  intro ρ G H us vs Q E S r h
  cases r with
  | nil => exact h.elim
  | @cons x v xs vs hx ht =>
    cases ht with
    | cons _ _ => cases x <;> exact h.elim
    | nil =>
      have sq : ∀ ys, seqU G x = some ys → bLen [x] G = .ok (.int ys.length) G → rLenA K.K [v] H Q := by
        intro ys hs hg
        rw [hg] at h
        obtain ⟨p, ws, rfl, hq, hr⟩ := seqU_ok S hx hs
        refine ⟨.ref p, ws.length, rfl, ?_, by rw [← hr.len]; exact h.end_ S (.int _)⟩
        rcases hq with hq | hq
        · exact .inl ⟨ws, hq, rfl⟩
        · exact .inr ⟨ws, hq, rfl⟩
      cases hx with
      | str z =>
        unfold bLen at h
        simp only at h
        by_cases hl : z.length ≤ 16777216
        · rw [if_pos hl] at h
          exact ⟨.str z, z.length, rfl, ⟨by rw [line_eq]; exact hl, rfl⟩, h.end_ S (.int _)⟩
        · rw [if_neg hl] at h; exact h.elim
      | @tup ys _ _ _ _ => exact sq ys rfl rfl
      | @rl ys _ _ _ _ => exact sq ys rfl rfl
      | @ref l a ha =>
        cases q : seqU G (.ref l) with
        | none => unfold bLen at h; simp only [q] at h; exact h.elim
        | some ys => exact sq ys q (by unfold bLen; simp only [q])
      | _ => exact h.elim
/-! int, abs, max, min of two ints; tuple, list -/
def bInt (us : List U) (G : Gp) : R U := match us with
  | [.int i] => .ok (.int i) G
  | [.bl k] => .ok (.int (if k = true then 1 else 0)) G
  | _ => .bad
def bAbs (us : List U) (G : Gp) : R U := match us with
  | [.int i] => .ok (.int (if i < 0 then -i else i)) G
  | _ => .bad
def bMax2 (us : List U) (G : Gp) : R U := match us with
  | [.int i, .int j] => .ok (.int (if j > i then j else i)) G
  | _ => .bad
def bMin2 (us : List U) (G : Gp) : R U := match us with
  | [.int i, .int j] => .ok (.int (if j < i then j else i)) G
  | _ => .bad
def bTuple (us : List U) (G : Gp) : R U := match us with
  | [u] => match seqU G u with
    | some xs => .ok (.tup xs) G
    | none => .bad
  | _ => .bad
def bList (us : List U) (G : Gp) : R U := match us with
  | [u] => match seqU G u with
    | some xs => .ok (.ref G.length) (G ++ [.lst xs])
    | none => .bad
  | _ => .bad
section
variable {K : KZ}
theorem oInt : OpN K (fun xs H Q => (∃ i, xs = [.int i] ∧ Q (.int i) H) ∨ ∃ k, xs = [.bl k] ∧ Q (.int (if k then 1 else 0)) H) bInt := by
  intro ρ G H us vs Q E S r h
  unfold bInt at h
  split at h
  · obtain ⟨v, rfl, rv⟩ := r.one
    cases rv
    exact .inl ⟨_, rfl, h.end_ S (.int _)⟩
  · obtain ⟨v, rfl, rv⟩ := r.one
    cases rv
    exact .inr ⟨_, rfl, h.end_ S (.int _)⟩
  · exact h.elim
theorem oAbs : OpN K (fun xs H Q => ∃ i, xs = [.int i] ∧ Q (.int (if i < 0 then -i else i)) H) bAbs := by
  intro ρ G H us vs Q E S r h
  unfold bAbs at h
  split at h
  · obtain ⟨v, rfl, rv⟩ := r.one
    cases rv
    exact ⟨_, rfl, h.end_ S (.int _)⟩
  · exact h.elim
theorem oMax2 : OpN K (fun xs H Q => ∃ i j, xs = [.int i, .int j] ∧ Q (.int (if j > i then j else i)) H) bMax2 := by
  intro ρ G H us vs Q E S r h
  unfold bMax2 at h
  split at h
  · obtain ⟨v, w, rfl, rv, rw'⟩ := r.two
    cases rv
    cases rw'
    exact ⟨_, _, rfl, h.end_ S (.int _)⟩
  · exact h.elim
theorem oMin2 : OpN K (fun xs H Q => ∃ i j, xs = [.int i, .int j] ∧ Q (.int (if j < i then j else i)) H) bMin2 := by
  intro ρ G H us vs Q E S r h
  unfold bMin2 at h
  split at h
  · obtain ⟨v, w, rfl, rv, rw'⟩ := r.two
    cases rv
    cases rw'
    exact ⟨_, _, rfl, h.end_ S (.int _)⟩
  · exact h.elim
theorem oTuple : OpN K (fun xs H Q => ∃ p ys, xs = [.ref p] ∧ ((SqL K.K H p ys ∧ ∀ l, H l = none → Q (.ref l) (upd H l (.tup ys))) ∨ (SqT K.K H p ys ∧ Q (.ref p) H))) bTuple := by
  intro ρ G H us vs Q E S r h
  unfold bTuple at h
  split at h
  · rename_i u
    obtain ⟨v, rfl, rv⟩ := r.one
    cases q : seqU G u with
    | none => rw [q] at h; exact h.elim
    | some xs =>
      rw [q] at h
      have h : Post K (RU K) ρ H (.ok (.tup xs) G) Q E := h
      cases rv with
      | @tup ys ws a ha hr => cases q; exact ⟨a, ws, rfl, .inr ⟨ha.sq, h.end_ S (.tup ha hr)⟩⟩
      | @rl ys ws a ha hr => cases q; exact ⟨a, ws, rfl, .inl ⟨ha.sq, newTup S hr h⟩⟩
      | @ref l a ha =>
        unfold seqU at q
        simp only at q
        cases e1 : G[l]? with
        | none => rw [e1] at q; exact nomatch q
        | some o =>
          rw [e1] at q
          cases o with
          | lst ys =>
            cases q
            obtain ⟨ws, e2, r2⟩ := S.list ha e1
            exact ⟨a, ws, rfl, .inl ⟨SqL.of e2, newTup S r2 h⟩⟩
          | _ => exact nomatch q
      | _ => exact nomatch q
  · exact h.elim
theorem oList : OpN K (fun xs H Q => ∃ p ys, xs = [.ref p] ∧ (SqL K.K H p ys ∨ SqT K.K H p ys) ∧ ∀ l, H l = none → Q (.ref l) (upd H l (.lst ys))) bList := by
  intro ρ G H us vs Q E S r h
  unfold bList at h
  split at h
  · rename_i u
    obtain ⟨v, rfl, rv⟩ := r.one
    cases q : seqU G u with
    | none => rw [q] at h; exact h.elim
    | some xs =>
      rw [q] at h
      obtain ⟨p, ws, rfl, hq, hr⟩ := seqU_ok S rv q
      exact ⟨p, ws, rfl, hq, newLst S hr h⟩
  · exact h.elim
end
/-! ### methods of lists -/
def mAppend (x : U) (us : List U) (G : Gp) : R U := match x, us with
  | .ref l, [y] => match G[l]? with
    | some (.lst xs) => if xs.length < 16777216 then .ok .non (G.set l (.lst (xs ++ [y]))) else .bad
    | _ => .bad
  | _, _ => .bad
def mPop (x : U) (us : List U) (G : Gp) : R U := match x, us with
  | .ref l, [] => match G[l]? with
    | some (.lst xs) => match xs[xs.length - 1]? with
      | some y => .ok y (G.set l (.lst xs.dropLast))
      | none => .bad
    | _ => .bad
  | _, _ => .bad
def mPopAt (x : U) (us : List U) (G : Gp) : R U := match x, us with
  | .ref l, [.int i] => if -(2 ^ 63) ≤ i ∧ i < 2 ^ 63 then match G[l]? with
    | some (.lst xs) => match ixN xs.length i with
      | some k => match xs[k]? with
        | some y => .ok y (G.set l (.lst (xs.eraseIdx k)))
        | none => .bad
      | none => .bad
    | _ => .bad
    else .bad
  | _, _ => .bad
def OpM (K : KZ) (r : V → List V → Hp → VK → Prop) (g : U → List U → Gp → R U) : Prop := ∀ ρ G H x v us vs Q E, Sim K ρ G H → RU K ρ H x v → RUs K ρ H us vs → Post K (RU K) ρ H (g x us G) Q E → r v vs H Q
def isLst (u : U) (G : Gp) : Bool := match u with
  | .ref l => match G[l]? with
    | some (.lst _) => true
    | _ => false
  | _ => false
def eMeth (g : U → List U → Gp → R U) (fo : Ev → Gp → R U) (fa : Ev → Gp → R (List U)) : Ev → Gp → R U := fun env G => (fo env G).bind fun o G1 => if isLst o G1 = true then (fa env G1).bind fun us G2 => g o us G2 else .bad
section
variable {K : KZ}
theorem isLst_ok {ρ : List Addr} {G : Gp} {H : Hp} {u : U} {v : V} (S : Sim K ρ G H) (r : RU K ρ H u v) (h : isLst u G = true) : tyV K.K "list" v H := by
  cases r with
  | @ref l a ha =>
    unfold isLst at h
    simp only at h
    cases q : G[l]? with
    | none => rw [q] at h; exact nomatch h
    | some o =>
      rw [q] at h
      cases o with
      | lst xs =>
        obtain ⟨vs, e, _⟩ := S.list ha q
        exact .inl ⟨rfl, vs, SqL.of e⟩
      | _ => exact nomatch h
  | _ => exact nomatch h
theorem RUs.zero {ρ : List Addr} {H : Hp} {vs : List V} (r : RUs K ρ H [] vs) : vs = [] := by cases r; rfl
theorem RUs.dropLast {ρ : List Addr} {H : Hp} : ∀ {us : List U} {vs : List V}, RUs K ρ H us vs → RUs K ρ H us.dropLast vs.dropLast
  | _, _, .nil => .nil
  | _, _, .cons h .nil => .nil
  | _, _, .cons h (.cons h2 t) => .cons h (RUs.dropLast (.cons h2 t))
theorem RUs.eraseIdx {ρ : List Addr} {H : Hp} : ∀ {us : List U} {vs : List V}, RUs K ρ H us vs → ∀ i : Nat, RUs K ρ H (us.eraseIdx i) (vs.eraseIdx i)
  | _, _, .nil, _ => .nil
  | _, _, .cons _ t, 0 => t
  | _, _, .cons h t, i + 1 => .cons h (t.eraseIdx i)
theorem updEnd {ρ : List Addr} {G : Gp} {H : Hp} {l : Nat} {a : Addr} {xs ys : List U} {vs ws : List V} {u : U} {v : V} {Q : VK} {E : XK} (S : Sim K ρ G H) (ha : ρ[l]? = some a) (e : H a = some (.lst vs)) (r : RUs K ρ H ys ws) (ru : RU K ρ H u v)
    (h : Post K (RU K) ρ H (.ok u (G.set l (.lst ys))) Q E) : Q v (upd H a (.lst ws)) := by
  obtain ⟨S', st⟩ := S.setList (xs := xs) ha e r
  exact h v ρ _ pre_refl st S' (ru.mono pre_refl st)
theorem oAppend : OpM K rAppend mAppend := by
  intro ρ G H x v us vs Q E S rx rs h
  unfold mAppend at h
  split at h
  · rename_i l y
    cases rx with
    | @ref _ a ha =>
      obtain ⟨w, rfl, rw'⟩ := rs.one
      cases q : G[l]? with
      | none => rw [q] at h; exact h.elim
      | some o =>
        rw [q] at h
        cases o with
        | lst xs =>
          obtain ⟨ws, e, r⟩ := S.list ha q
          simp only at h
          by_cases hl : xs.length < 16777216
          · rw [if_pos hl] at h
            exact ⟨a, ws, w, rfl, rfl, e, by rw [← r.len, line_eq]; exact hl, updEnd (xs := xs) S ha e (r.append (.cons rw' .nil)) .non h⟩
          · rw [if_neg hl] at h; exact h.elim
        | _ => exact h.elim
  · exact h.elim
theorem oPop : OpM K rPop mPop := by
  intro ρ G H x v us vs Q E S rx rs h
  unfold mPop at h
  split at h
  · rename_i l
    cases rx with
    | @ref _ a ha =>
      cases rs.zero
      cases q : G[l]? with
      | none => rw [q] at h; exact h.elim
      | some o =>
        rw [q] at h
        cases o with
        | lst xs =>
          obtain ⟨ws, e, r⟩ := S.list ha q
          simp only at h
          cases q2 : xs[xs.length - 1]? with
          | none => rw [q2] at h; exact h.elim
          | some y =>
            rw [q2] at h
            obtain ⟨w, e2, rw'⟩ := r.getU q2
            exact ⟨a, ws, w, rfl, rfl, e, by rw [← r.len]; exact e2, updEnd (xs := xs) S ha e r.dropLast rw' h⟩
        | _ => exact h.elim
  · exact h.elim
theorem oPopAt : OpM K rPopAt mPopAt := by
  intro ρ G H x v us vs Q E S rx rs h
  unfold mPopAt at h
  split at h
  · rename_i l i
    by_cases hi : -(2 ^ 63) ≤ i ∧ i < 2 ^ 63
    · rw [if_pos hi] at h
      cases rx with
      | @ref _ a ha =>
        obtain ⟨w0, rfl, rw0⟩ := rs.one
        cases rw0
        cases q : G[l]? with
        | none => rw [q] at h; exact h.elim
        | some o =>
          rw [q] at h
          cases o with
          | lst xs =>
            obtain ⟨ws, e, r⟩ := S.list ha q
            simp only at h
            cases q1 : ixN xs.length i with
            | none => rw [q1] at h; exact h.elim
            | some k =>
              rw [q1] at h
              simp only at h
              cases q2 : xs[k]? with
              | none => rw [q2] at h; exact h.elim
              | some y =>
                rw [q2] at h
                obtain ⟨w, e2, rw'⟩ := r.getU q2
                obtain ⟨h1, h2, h3, h4⟩ := ixN_seq q1
                exact ⟨a, ws, i, k, w, rfl, rfl, e, hi.1, hi.2, by rw [← r.len]; exact h1, e2, updEnd (xs := xs) S ha e (r.eraseIdx k) rw' h⟩
          | _ => exact h.elim
    · rw [if_neg hi] at h; exact h.elim
  · exact h.elim
end
section
variable {X : Cx} {Z : ZZ X.K} {W : WX} {o e : Expr} {es : List Expr} {fo : Ev → Gp → R U} {fa : Ev → Gp → R (List U)} {g : U → List U → Gp → R U} {r : V → List V → Hp → VK → Prop} {id : String} {name : Str} {apos cpos : Pos}
theorem fmeth (om : OpM (kz X Z) r g) (slot : Slot "list" name id) (hty : typeOf (.builtin id) = pure (.type "method_descriptor")) (hm : MtR X id r) (ho : FE X Z W o fo) (ha : FA X Z W (e :: es) fa)
    (hbase : attributeBase o name X.env (eval o X.env) = eval o X.env := by rfl)
    (hfew : ((backTo cpos (starEach (e :: es) X.env)).all (fun x => !x.1) && (backToKw cpos (keywordEach [] X.env)).all (fun x => x.1.isSome)
      && decide ((e :: es).length + ([] : List Keyword).length + (if ([] : List Keyword).isEmpty then 0 else 1) < 30)) = true := by rfl)
    (hline : (apos.endLine == cpos.line) = true := by rfl) (hs : starEach (e :: es) X.env = (false, eval e X.env) :: starEach es X.env := by rfl) (hplain : (backTo cpos (starEach es X.env)).any (·.1) = false := by rfl) :
    FE X Z W (.Call (.Attribute o name apos) (e :: es) [] cpos) (eMeth g fo fa) := by
  refine PEimp (pe_bm PySem.F.plainAttrs_list slot hty hm ho ha hbase hfew hline hs hplain) fun σ H Q ⟨ρ, G, env, S, e, h⟩ => ?_
  refine tG_mono (step S e h) fun v H1 ⟨ρ1, G1, x, p1, s1, S1, e1, r1, h1⟩ => ?_
  by_cases hl : isLst x G1 = true
  · rw [if_pos hl] at h1
    exact ⟨isLst_ok S1 r1 hl, tG_mono (step (rel := RUs (kz X Z)) S1 e1 h1) fun w H2 ⟨ρ2, G2, y, p2, s2, S2, e2, r2, h2⟩ => om _ _ _ _ _ _ _ _ _ S2 (r1.mono p2 s2) r2 h2⟩
  · rw [if_neg hl] at h1; exact h1.elim
theorem fmeth0 (om : OpM (kz X Z) r g) (slot : Slot "list" name id) (hty : typeOf (.builtin id) = pure (.type "method_descriptor")) (hm : MtR X id r) (ho : FE X Z W o fo)
    (hbase : attributeBase o name X.env (eval o X.env) = eval o X.env := by rfl) (hline : (apos.endLine == cpos.line) = true := by rfl) : FE X Z W (.Call (.Attribute o name apos) [] [] cpos) (eMeth g fo aNil) := by
  refine PEimp (pe_bm0 PySem.F.plainAttrs_list slot hty hm ho hbase hline) fun σ H Q ⟨ρ, G, env, S, e, h⟩ => ?_
  refine tG_mono (step S e h) fun v H1 ⟨ρ1, G1, x, p1, s1, S1, e1, r1, h1⟩ => ?_
  by_cases hl : isLst x G1 = true
  · rw [if_pos hl] at h1
    exact ⟨isLst_ok S1 r1 hl, om _ _ _ _ _ _ _ _ _ S1 r1 .nil h1⟩
  · rw [if_neg hl] at h1; exact h1.elim
end
end FL

set_option Elab.async false
set_option linter.all false
set_option maxRecDepth 100000
set_option maxHeartbeats 4000000
set_option autoImplicit false
namespace FL
open PySem PySem.Spec L2

/-! ### list comprehensions -/
def compN (nth : Nat → Gp → Option (Option U)) (gf : U → Ev → Gp → R Ev) (ft : Ev → Gp → R Bool) (fe : Ev → Gp → R U) (l : Nat) (env0 : Ev) : Nat → Nat → Gp → R U
  | 0, _, _ => .bad
  | n + 1, i, G => match nth i G with
    | none => .bad
    | some none => .ok (.ref l) G
    | some (some u) => (gf u env0 G).bindN fun env1 G1 => (ft env1 G1).bindN fun b G2 => if b = true then (fe env1 G2).bindN fun y G3 => match G3[l]? with
        | some (.lst acc) => if acc.length < 16777216 then compN nth gf ft fe l env0 n (i + 1) (G3.set l (.lst (acc ++ [y]))) else .bad
        | _ => .bad
      else compN nth gf ft fe l env0 n (i + 1) G2
def compL (gf : U → Ev → Gp → R Ev) (ft : Ev → Gp → R Bool) (fe : Ev → Gp → R U) (l : Nat) (env0 : Ev) : List U → Gp → R U
  | [], G => .ok (.ref l) G
  | u :: us, G => (gf u env0 G).bindN fun env1 G1 => (ft env1 G1).bindN fun b G2 => if b = true then (fe env1 G2).bindN fun y G3 => match G3[l]? with
        | some (.lst acc) => if acc.length < 16777216 then compL gf ft fe l env0 us (G3.set l (.lst (acc ++ [y]))) else .bad
        | _ => .bad
      else compL gf ft fe l env0 us G2
def wipeE (env : Ev) : List Nat → Ev
  | [] => env
  | v :: vs => (wipeE env vs).set v none
def eComp (own : List Nat) (fi : Ev → Gp → R Src) (gf : U → Ev → Gp → R Ev) (ft : Ev → Gp → R Bool) (fe : Ev → Gp → R U) : Ev → Gp → R U := fun env G => (fi env G).bind fun src G1 => match src with
  | .items xs => compL gf ft fe G1.length (wipeE env own) xs (G1 ++ [.lst []])
  | .live n nth => compN nth gf ft fe G1.length (wipeE env own) n 0 (G1 ++ [.lst []])
theorem compL_drop {gf : U → Ev → Gp → R Ev} {ft : Ev → Gp → R Bool} {fe : Ev → Gp → R U} {l : Nat} {env0 : Ev} {xs : List U} : ∀ (m i : Nat) (G : Gp), m = xs.length + 1 - i → i ≤ xs.length → compN (fun i _ => some xs[i]?) gf ft fe l env0 m i G = compL gf ft fe l env0 (xs.drop i) G := by
  intro m
  induction m with
  | zero => intro i G h1 h2; omega
  | succ m ih =>
    intro i G h1 h2
    by_cases hi : i < xs.length
    · have e : xs.drop i = xs[i] :: xs.drop (i + 1) := List.drop_eq_getElem_cons hi
      rw [e]
      have ih' : ∀ G, compN (fun i _ => some xs[i]?) gf ft fe l env0 m (i + 1) G = compL gf ft fe l env0 (xs.drop (i + 1)) G := fun G => ih (i + 1) G (by omega) hi
      unfold compN compL
      simp only [List.getElem?_eq_getElem hi, ih']
    · have e : i = xs.length := by omega
      subst e
      rw [List.drop_length]
      unfold compN compL
      simp only [List.getElem?_eq_none (Nat.le_refl _)]
theorem eComp_run {src : Src} {gf : U → Ev → Gp → R Ev} {ft : Ev → Gp → R Bool} {fe : Ev → Gp → R U} {l : Nat} {env : Ev} {G1 : Gp} : (match src with
  | .items xs => compL gf ft fe l env xs G1
  | .live n nth => compN nth gf ft fe l env n 0 G1) = compN src.nth gf ft fe l env src.fuel 0 G1 := by
  cases src with
  | items xs =>
    show compL gf ft fe l env xs G1 = compN (fun i _ => some xs[i]?) gf ft fe l env (xs.length + 1) 0 G1
    rw [compL_drop (xs.length + 1) 0 G1 (by omega) (Nat.zero_le _)]
    rfl
  | live n nth => rfl
/-- no exception is let out -/
def W0 : WX := fun _ _ _ _ => False
section
variable {K : KZ} {ρ : List Addr} {H : Hp}
theorem REq.wipe (hZ : K.Z.er = none) {env : Ev} {σ : St} (e : REq K ρ H env σ) : ∀ vs : List Nat, REq K ρ H (wipeE env vs) (wipe σ vs)
  | [] => e
  | v :: vs => (REq.wipe hZ e vs).unset hZ v
theorem wipe_set {σ : St} {i : Nat} {x : Option V} : ∀ {vs : List Nat}, i ∈ vs → wipe (σ.set i x) vs = wipe σ vs
  | v :: vs, h => by
    by_cases hi : i ∈ vs
    · show (wipe (σ.set i x) vs).set v none = (wipe σ vs).set v none
      rw [wipe_set hi]
    · have hv : v = i := by
        rcases List.mem_cons.mp h with e | e
        · exact e.symm
        · exact absurd e hi
      subst hv
      have out : ∀ (ws : List Nat), v ∉ ws → wipe (σ.set v x) ws = (wipe σ ws).set v x := by
        intro ws
        induction ws with
        | nil => intro _; rfl
        | cons w ws ih =>
          intro hw
          show (wipe (σ.set v x) ws).set w none = ((wipe σ ws).set w none).set v x
          rw [ih fun z => hw (List.mem_cons_of_mem _ z), List.set_comm _ _ (fun z => hw (by rw [z]; exact List.mem_cons_self))]
      show (wipe (σ.set v x) vs).set v none = (wipe σ vs).set v none
      rw [out vs hi, List.set_set]
end
/-- a target whose stores lie among vs -/
def tgW (K : KZ) (gf : U → Ev → Gp → R Ev) (vs : List Nat) : TG := fun v σ H Q => ∃ ρ G env u, Sim K ρ G H ∧ REq K ρ H env σ ∧ RU K ρ H u v ∧ match gf u env G with
  | .ok env' G' => ∀ σ' ρ' H', ρ <+: ρ' → Stb K H H' → Sim K ρ' G' H' → REq K ρ' H' env' σ' → wipe σ' vs = wipe σ vs → Q σ' H'
  | _ => False
def tgWs (K : KZ) (gs : List U → Ev → Gp → R Ev) (vs : List Nat) : TGs := fun ws σ H Q => ∃ ρ G env us, Sim K ρ G H ∧ REq K ρ H env σ ∧ RUs K ρ H us ws ∧ match gs us env G with
  | .ok env' G' => ∀ σ' ρ' H', ρ <+: ρ' → Stb K H H' → Sim K ρ' G' H' → REq K ρ' H' env' σ' → wipe σ' vs = wipe σ vs → Q σ' H'
  | _ => False
abbrev FGw (X : Cx) (Z : ZZ X.K) (e : Expr) (gf : U → Ev → Gp → R Ev) (vs : List Nat) : Prop := PG X e (tgW (kz X Z) gf vs)
abbrev FGws (X : Cx) (Z : ZZ X.K) (es : List Expr) (gs : List U → Ev → Gp → R Ev) (vs : List Nat) : Prop := PGs X es (tgWs (kz X Z) gs vs)
section
variable {X : Cx} {Z : ZZ X.K} {W : WX} {e : Expr} {es : List Expr} {pos : Pos} {vs : List Nat}
theorem fwname {i : Nat} {x : Str} (hN : X.N.Nodup) (hi : X.N[i]? = some x) (hx : Loc X.env.scope x) (hv : i ∈ vs := by decide) (hf : X.fn x = true ∨ X.env.scope.names.lookup x = some .local := by first | exact .inl rfl | exact .inr rfl | assumption) : FGw X Z (.Name x pos) (gNm i) vs :=
  PGimp (pg_name hN hi hx hf) fun v σ H Q ⟨ρ, G, env, u, S, e, r, h⟩ => h _ ρ H pre_refl Stb.refl S (e.set r i) (wipe_set hv)
theorem fwnil : FGws X Z [] gNil vs := by
  refine PGsimp pgs_nil fun ws σ H Q ⟨ρ, G, env, us, S, e, r, h⟩ => ?_
  cases r with
  | nil => exact ⟨rfl, h _ ρ H pre_refl Stb.refl S e rfl⟩
  | cons _ _ => exact h.elim
theorem fwcons {g : U → Ev → Gp → R Ev} {gs : List U → Ev → Gp → R Ev} (h1 : FGw X Z e g vs) (h2 : FGws X Z es gs vs) (hs : (assignEach (e :: es) X.env).map (·.2) = assign e X.env :: (assignEach es X.env).map (·.2) := by rfl) : FGws X Z (e :: es) (gCons g gs) vs := by
  refine PGsimp (pgs_cons h1 h2 hs) fun ws σ H Q ⟨ρ, G, env, us, S, e, r, h⟩ => ?_
  cases r with
  | nil => exact h.elim
  | @cons x v xs ws hx hr =>
    refine ⟨v, ws, rfl, ρ, G, env, x, S, e, hx, ?_⟩
    have h : match (g x env G).bind fun env' G' => gs xs env' G' with
      | .ok env' G' => ∀ σ' ρ' H', ρ <+: ρ' → Stb (kz X Z) H H' → Sim (kz X Z) ρ' G' H' → REq (kz X Z) ρ' H' env' σ' → wipe σ' vs = wipe σ vs → Q σ' H'
      | _ => False := h
    cases q : g x env G with
    | ok env' G' =>
      rw [q] at h
      intro σ1 ρ1 H1 p1 s1 S1 e1 w1
      refine ⟨ρ1, G', env', xs, S1, e1, hr.mono p1 s1, ?_⟩
      have h : match gs xs env' G' with
        | .ok env' G' => ∀ σ' ρ' H', ρ <+: ρ' → Stb (kz X Z) H H' → Sim (kz X Z) ρ' G' H' → REq (kz X Z) ρ' H' env' σ' → wipe σ' vs = wipe σ vs → Q σ' H'
        | _ => False := h
      cases q2 : gs xs env' G' with
      | ok env2 G2 => rw [q2] at h; exact fun σ' ρ' H' p s S' e' w => h σ' ρ' H' (p1.trans p) (s1.trans s) S' e' (w.trans w1)
      | exc c fs G2 => rw [q2] at h; exact h.elim
      | bad => rw [q2] at h; exact h.elim
    | exc c fs G' => rw [q] at h; exact h.elim
    | bad => rw [q] at h; exact h.elim
theorem fwtup {k n : Nat} {gs : List U → Ev → Gp → R Ev} (hc : X.calm = true) (h : FGws X Z es gs vs) (hn : (assignEach es X.env).length = n := by rfl) (hst : (assignEach es X.env).findIdx? (·.1) = none := by rfl) : FGw X Z (.Tuple es k pos) (gTup gs n) vs := by
  refine PGimp (pg_tup hc h hn hst) fun v σ H Q ⟨ρ, G, env, u, S, e, r, h⟩ => ?_
  cases r with
  | @tup xs ws a ht hr =>
    have h : match (if xs.length = n then gs xs env G else .bad : R Ev) with
      | .ok env' G' => ∀ σ' ρ' H', ρ <+: ρ' → Stb (kz X Z) H H' → Sim (kz X Z) ρ' G' H' → REq (kz X Z) ρ' H' env' σ' → wipe σ' vs = wipe σ vs → Q σ' H'
      | _ => False := h
    by_cases hl : xs.length = n
    · rw [if_pos hl] at h
      exact ⟨a, ws, rfl, ht.sq, by rw [← hr.len]; exact hl, ρ, G, env, xs, S, e, hr, h⟩
    · rw [if_neg hl] at h; exact h.elim
  | _ => exact h.elim
/-- the tests of a comprehension -/
abbrev FTs (X : Cx) (Z : ZZ X.K) (ifs : List Expr) (f : Ev → Gp → R Bool) : Prop := PTs X ifs (ttF (kz X Z) W0 f)
theorem PTsimp {ifs : List Expr} {t t' : TT} (h : PTs X ifs t) (i : ∀ σ H Q, t' σ H Q → t σ H Q) : PTs X ifs t' := ⟨fun pins s σ H Q I q => h.run pins s σ H Q I (i σ H Q q)⟩
def tYesB : Ev → Gp → R Bool := fun _ G => .ok true G
theorem ftsnil : FTs X Z [] tYesB := PTsimp pts_nil fun σ H Q ⟨ρ, G, env, S, e, h⟩ => Post.end_ (rel := fun _ _ (a b : Bool) => a = b) h S rfl
theorem ftsone {c : Expr} {f : Ev → Gp → R Bool} (h : FT X Z W0 c f) : FTs X Z [c] f := pts_one h
end
section
variable {X : Cx} {Z : ZZ X.K} {W : WX}
theorem tLc_of (hZ : Z.er = none) {fi : Ev → Gp → R Src} {gf : U → Ev → Gp → R Ev} {ft : Ev → Gp → R Bool} {fe : Ev → Gp → R U} {own : List Nat} (σ : St) (H : Hp) (Q : VK) (h : tF (kz X Z) W (eComp own fi gf ft fe) σ H Q) :
    tLc (tiF (kz X Z) W fi) (tgW (kz X Z) gf own) (ttF (kz X Z) W0 ft) (tF (kz X Z) W0 fe) own σ H Q := by
  obtain ⟨ρ, G, env, S, e, h⟩ := h
  refine ⟨ρ, G, env, S, e, ?_⟩
  unfold eComp at h
  cases q : fi env G with
  | bad => rw [q] at h; exact h
  | exc c fs G1 => rw [q] at h; exact h
  | ok src G1 =>
    rw [q] at h
    have h : Post (kz X Z) (RU (kz X Z)) ρ H (compN src.nth gf ft fe G1.length (wipeE env own) src.fuel 0 (G1 ++ [.lst []])) Q fun c d H' => W c d σ H' := by rw [← eComp_run]; exact h
    intro ρ1 H1 J p1 s1 S1 wk D hD
    have sn : Stb (kz X Z) H1 (upd H1 D (.lst [])) := stb_new hD
    have Sn : Sim (kz X Z) (ρ1 ++ [D]) (G1 ++ [.lst []]) (upd H1 D (.lst [])) := S1.new hD (show RUs (kz X Z) _ _ [] [] from .nil)
    have hl : ∀ ρ2, (ρ1 ++ [D]) <+: ρ2 → ρ2[G1.length]? = some D := fun ρ2 p => pre_get p (by rw [← S1.len]; simp)
    refine ⟨fun i m H2 => ∃ ρ2 G2, (ρ1 ++ [D]) <+: ρ2 ∧ Stb (kz X Z) (upd H1 D (.lst [])) H2 ∧ Sim (kz X Z) ρ2 G2 H2 ∧ Post (kz X Z) (RU (kz X Z)) ρ2 H2 (compN src.nth gf ft fe G1.length (wipeE env own) m i G2) Q fun c d H' => W c d σ H',
      ⟨src.fuel, ρ1 ++ [D], _, pre_refl, Stb.refl, Sn, Post.lift h (p1.trans ⟨[D], rfl⟩) (s1.trans sn)⟩, ?_⟩
    rintro i m H2 ⟨ρ2, G2, p2, s2, S2, h2⟩
    have pp : ρ1 <+: ρ2 := List.IsPrefix.trans ⟨[D], rfl⟩ p2
    have ss : Stb (kz X Z) H1 H2 := sn.trans s2
    cases m with
    | zero => exact h2.elim
    | succ m =>
      have w := wk ρ2 H2 G2 i pp ss S2
      unfold compN at h2
      have en : src.nth i G2 = src.at_ i G2 := rfl
      rw [en] at h2
      cases qn : src.at_ i G2 with
      | none => rw [qn] at h2; exact h2.elim
      | some o =>
        rw [qn] at h2 w
        cases o with
        | none => exact .inl ⟨w, h2.end_ S2 (.ref (hl ρ2 p2))⟩
        | some u =>
          refine .inr ⟨w.1, fun H' => ∃ ρ3 G3, (ρ1 ++ [D]) <+: ρ3 ∧ Stb (kz X Z) (upd H1 D (.lst [])) H' ∧ Sim (kz X Z) ρ3 G3 H' ∧ Post (kz X Z) (RU (kz X Z)) ρ3 H' (compN src.nth gf ft fe G1.length (wipeE env own) m (i + 1) G3) Q fun c d H' => W c d σ H',
            fun H' z => ⟨m, Nat.lt_succ_self m, z⟩, fun x H3 y => ?_⟩
          obtain ⟨s3, S3, rx⟩ := w.2 x H3 y
          have h3 : Post (kz X Z) (RU (kz X Z)) ρ2 H3 ((gf u (wipeE env own) G2).bindN fun env1 G1' => (ft env1 G1').bindN fun b G2' => if b = true then (fe env1 G2').bindN fun y G3 => match G3[G1.length]? with
              | some (.lst acc) => if acc.length < 16777216 then compN src.nth gf ft fe G1.length (wipeE env own) m (i + 1) (G3.set G1.length (.lst (acc ++ [y]))) else .bad
              | _ => .bad
            else compN src.nth gf ft fe G1.length (wipeE env own) m (i + 1) G2') Q fun c d H' => W c d σ H' := Post.lift h2 pre_refl s3
          have ew : REq (kz X Z) ρ2 H3 (wipeE env own) (wipe σ own) := ((e.mono (p1.trans pp) ((s1.trans ss).trans s3))).wipe hZ own
          refine ⟨ρ2, G2, wipeE env own, u, S3, ew, rx, ?_⟩
          cases qg : gf u (wipeE env own) G2 with
          | bad => rw [qg] at h3; exact h3
          | exc c fs G' => rw [qg] at h3; exact h3
          | ok env3 G3 =>
            rw [qg] at h3
            intro σ4 ρ4 H4 p4 s4 S4 e4 w4
            have idem : ∀ τ : St, wipe (wipe τ own) own = wipe τ own := by
              intro τ
              have hh : ∀ (ws : List Nat), (∀ v ∈ ws, v ∈ own) → wipe (wipe τ ws) own = wipe τ own := by
                intro ws
                induction ws with
                | nil => intro _; rfl
                | cons v ws ih =>
                  intro hv
                  show wipe ((wipe τ ws).set v none) own = _
                  rw [wipe_set (hv v List.mem_cons_self)]
                  exact ih fun x hx => hv x (List.mem_cons_of_mem _ hx)
              exact hh own fun _ h => h
            refine ⟨w4.trans (idem σ), ?_⟩
            have h4 : Post (kz X Z) (RU (kz X Z)) ρ4 H4 ((ft env3 G3).bindN fun b G2' => if b = true then (fe env3 G2').bindN fun y G3 => match G3[G1.length]? with
                | some (.lst acc) => if acc.length < 16777216 then compN src.nth gf ft fe G1.length (wipeE env own) m (i + 1) (G3.set G1.length (.lst (acc ++ [y]))) else .bad
                | _ => .bad
              else compN src.nth gf ft fe G1.length (wipeE env own) m (i + 1) G2') Q fun c d H' => W c d σ H' := Post.lift h3 p4 s4
            refine ⟨ρ4, G3, env3, S4, e4, ?_⟩
            cases qt : ft env3 G3 with
            | bad => rw [qt] at h4; exact h4
            | exc c fs G' => rw [qt] at h4; exact h4.elim
            | ok b G5 =>
              rw [qt] at h4
              intro b' ρ5 H5 p5 s5 S5 r5
              have r5 : b = b' := r5
              subst r5
              have h5 : Post (kz X Z) (RU (kz X Z)) ρ5 H5 (if b = true then (fe env3 G5).bindN fun y G3 => match G3[G1.length]? with
                  | some (.lst acc) => if acc.length < 16777216 then compN src.nth gf ft fe G1.length (wipeE env own) m (i + 1) (G3.set G1.length (.lst (acc ++ [y]))) else .bad
                  | _ => .bad
                else compN src.nth gf ft fe G1.length (wipeE env own) m (i + 1) G5) Q fun c d H' => W c d σ H' := Post.lift h4 p5 s5
              cases b with
              | false => exact ⟨ρ5, G5, p2.trans (p4.trans p5), (s2.trans s3).trans (s4.trans s5), S5, h5⟩
              | true =>
                rw [if_pos rfl]
                rw [if_pos rfl] at h5
                refine ⟨ρ5, G5, env3, S5, e4.mono p5 s5, ?_⟩
                cases qe : fe env3 G5 with
                | bad => rw [qe] at h5; exact h5
                | exc c fs G' => rw [qe] at h5; exact h5.elim
                | ok yv G6 =>
                  rw [qe] at h5
                  intro yV ρ6 H6 p6 s6 S6 r6
                  have h6 : Post (kz X Z) (RU (kz X Z)) ρ6 H6 (match G6[G1.length]? with
                    | some (.lst acc) => if acc.length < 16777216 then compN src.nth gf ft fe G1.length (wipeE env own) m (i + 1) (G6.set G1.length (.lst (acc ++ [yv]))) else .bad
                    | _ => .bad) Q fun c d H' => W c d σ H' := Post.lift h5 p6 s6
                  have pq : (ρ1 ++ [D]) <+: ρ6 := ((p2.trans p4).trans p5).trans p6
                  cases ql : G6[G1.length]? with
                  | none => rw [ql] at h6; exact h6.elim
                  | some ob =>
                    rw [ql] at h6
                    cases ob with
                    | lst acc =>
                      simp only at h6
                      by_cases hz : acc.length < 16777216
                      · rw [if_pos hz] at h6
                        obtain ⟨vs, ev, rv⟩ := S6.list (hl ρ6 pq) ql
                        obtain ⟨S7, s7⟩ := S6.setList (xs := acc) (hl ρ6 pq) ev (rv.append (.cons r6 .nil))
                        exact ⟨vs, ev, by rw [← rv.len, line_eq]; exact hz, ρ6, _, pq, (((s2.trans s3).trans s4).trans (s5.trans s6)).trans s7, S7, Post.lift h6 pre_refl s7⟩
                      · rw [if_neg hz] at h6; exact h6.elim
                    | _ => exact h6.elim
theorem fcomp {elt tg iter : Expr} {ifs : List Expr} {scope : Scope} {own : List (Str × Nat)} {pos : Pos} {fi : Ev → Gp → R Src} {gf : U → Ev → Gp → R Ev} {ft : Ev → Gp → R Bool} {fe : Ev → Gp → R U} (hZ : Z.er = none) (hc : X.calm = true) (hN : X.N.Nodup) (hi : FI X Z W tg iter fi) (ok : BlkOk X.N X.env.scope scope own)
    (hg : ∀ (s : Shared) (H : Hp) (C : Addr) (cl : List (Str × Addr)) (fp : List Addr), FGw (X.blk s H scope (compEnvC scope cl C X.env) fp) Z tg gf (own.map (·.2))) (ht : ∀ (s : Shared) (H : Hp) (C : Addr) (cl : List (Str × Addr)) (fp : List Addr), FTs (X.blk s H scope (compEnvC scope cl C X.env) fp) Z ifs ft)
    (he : ∀ (s : Shared) (H : Hp) (C : Addr) (cl : List (Str × Addr)) (fp : List Addr), FE (X.blk s H scope (compEnvC scope cl C X.env) fp) Z W0 elt fe) (hs : ∀ x, foldedSetIterable iter X.env x = pure x := by intro _; rfl) :
    FE X Z W (.ListComp elt [⟨tg, iter, ifs, 0⟩] scope pos) (eComp (own.map (·.2)) fi gf ft fe) := PEimp (pe_lc hc hN hi ok hg ht he hs) (tLc_of hZ)
theorem fsetcomp {i : Nat} {y : Str} {py : Pos} {elt tg iter : Expr} {ifs : List Expr} {scope : Scope} {own : List (Str × Nat)} {pos spos : Pos} {fi : Ev → Gp → R Src} {gf : U → Ev → Gp → R Ev} {ft : Ev → Gp → R Bool} {fe : Ev → Gp → R U} (hZ : Z.er = none) (hc : X.calm = true) (hN : X.N.Nodup) (hy : X.N[i]? = some y) (hyl : X.env.scope.names.lookup y = some .local)
    (hsw : swapsWith (.ListComp elt [⟨tg, iter, ifs, 0⟩] scope pos) (some (.Name y py)) spos.line X.env = pure true) (hi : FI X Z W tg iter fi) (ok : BlkOk X.N X.env.scope scope own)
    (hg : ∀ (s : Shared) (H : Hp) (C : Addr) (cl : List (Str × Addr)) (fp : List Addr), FGw (X.blk s H scope (compEnvC scope cl C X.env) fp) Z tg gf (own.map (·.2))) (ht : ∀ (s : Shared) (H : Hp) (C : Addr) (cl : List (Str × Addr)) (fp : List Addr), FTs (X.blk s H scope (compEnvC scope cl C X.env) fp) Z ifs ft)
    (he : ∀ (s : Shared) (H : Hp) (C : Addr) (cl : List (Str × Addr)) (fp : List Addr), FE (X.blk s H scope (compEnvC scope cl C X.env) fp) Z W0 elt fe) (hs : ∀ x, foldedSetIterable iter X.env x = pure x := by intro _; rfl) :
    FS X Z W (.Assign [.Name y py] (.ListComp elt [⟨tg, iter, ifs, 0⟩] scope pos) spos) (sAsg (eComp (own.map (·.2)) fi gf ft fe) (gNm i)) := by
  refine PSimp (ps_setLc (te := tF (kz X Z) W0 fe) (tt := ttF (kz X Z) W0 ft) (g := tgW (kz X Z) gf (own.map (·.2))) hc hN hy hyl hsw hi ok hg ht he hs) fun D σ H ⟨ρ, G, env, S, e, h⟩ => ?_
  refine tLc_of (W := W) hZ σ H _ ?_
  exact tG_mono (stepS S e h) fun v H1 ⟨ρ1, G1, x, p1, s1, S1, e1, r1, h1⟩ => h1 _ _ _ pre_refl Stb.refl S1 (e1.set r1 i)
end
end FL

set_option Elab.async false
set_option linter.all false
set_option maxRecDepth 100000
set_option maxHeartbeats 4000000
set_option autoImplicit false
namespace FL
open PySem PySem.Spec L2

/-! ### defs -/
def zP {K : PySem.W.Frag} (Z : ZZ K) : KZ := ⟨K, Z⟩
/-- the promise of a def: it does what F tells -/
def spF (K : PySem.W.Frag) (n : Nat) (F : List U → Gp → R U) : Sp := fun vs H Q E => vs.length = n ∧ ∃ (Z : ZZ K) (ρ : List Addr) (G : Gp) (us : List U), Z.er = none ∧ Sim ⟨K, Z⟩ ρ G H ∧ RUs ⟨K, Z⟩ ρ H us vs ∧ Post ⟨K, Z⟩ (RU ⟨K, Z⟩) ρ H (F us G) Q E
/-- a def by its body: n parameters, m names in all -/
def defF (n m : Nat) (body : Ev → Gp → SR) (us : List U) (G : Gp) : R U := if us.length = n then (match body (startE m us) G with
  | .nx _ G' => .ok .non G'
  | .ret u G' => .ok u G'
  | .exc c fs _ G' => .exc c fs G'
  | _ => .bad) else .bad
abbrev FnF (P : Program) (w : World) (K : PySem.W.Frag) (mg : Str → Option Value) (base : Heap) (k : Nat) (f : Addr) (fd : FuncData) (ps : List Str) (F : List U → Gp → R U) : Prop := FnOk P w K mg base (CX P w) k f fd ps (spF K ps.length F)
section
variable {P : Program} {w : World} {K : PySem.W.Frag} {mg : Str → Option Value} {base : Heap}
/-- what an exception that leaves the def's body wants -/
def wE (E : XK) : WX := fun cls d _ H => E cls d H
theorem fnF_of {x qual : Str} {params : Arguments} {body : List Stmt} {scope : Scope} {kws : List (Str × V)} {dvs : List V} {f : Addr} {fd : FuncData} {N ps : List Str} {k : Nat} {g : Ev → Gp → SR} (F : FunD K x qual params body scope dvs kws f fd) (S : FnScope N ps scope)
    (hb : ∀ (Z : ZZ K) (hZ : Z.er = none) (X : Cx) (cdv : Value) (A : Around) (outer : List Env) (s : Shared) (H : Hp) (E : XK), X = cxOf (CX P w) P w K mg base N qual scope f cdv A outer s H E → Room k X.A →
      FSs (cxOf (CX P w) P w K mg base N qual scope f cdv A outer s H E) Z (wE E) body g) : FnF P w K mg base (k + 1) f fd ps (defF ps.length N.length g) := by
  refine F.ok S (fun vs H Q E h => h.1) fun cdv A outer s H vs Q E hr h => ?_
  obtain ⟨hl, Z, ρ, G, us, hZ, Sm, r, h⟩ := h
  refine ⟨_, hb Z hZ _ cdv A outer s H E rfl hr, ρ, G, startE N.length us, Sm, REq.start hZ r N, ?_⟩
  unfold defF at h
  rw [if_pos (by rw [r.len]; exact hl)] at h
  cases q : g (startE N.length us) G with
  | nx e G' => rw [q] at h; exact fun σ' ρ' H' p s S' e' => h .non ρ' H' p s S' .non
  | ret u G' => rw [q] at h; exact h
  | brk e G' => rw [q] at h; exact h.elim
  | ct e G' => rw [q] at h; exact h.elim
  | exc c fs e G' => rw [q] at h; exact fun σ' d vfs ρ' H' p s S' e' q1 q2 => h d vfs ρ' H' p s S' q1 q2
  | bad => rw [q] at h; exact h.elim
end
section
variable {X : Cx} {Z : ZZ X.K} {W : WX} {k n : Nat} {f : Addr} {fd : FuncData} {ps : List Str} {x : Str} {p pos : Pos} {e : Expr} {es : List Expr} {F : List U → Gp → R U} {fa : Ev → Gp → R (List U)}
theorem passesAt_tk (tk : Takes X W) (σ : St) : PassesAt (CX X.prog X.w) X σ (fun c d H => W c d σ H) := fun pins H s e s' I c => tk e s' (XE.of_call I (fun _ _ _ h => h) c)
/-- a call whose F tells nothing bad has the right number of arguments -/
def Ar (n : Nat) (F : List U → Gp → R U) : Prop := ∀ us G, us.length ≠ n → F us G = .bad
theorem ar_defF {n m : Nat} {g : Ev → Gp → SR} : Ar n (defF n m g) := fun us G h => if_neg h
theorem fcall (hZ : Z.er = none) (Fn : FnF X.prog X.w X.K X.mg X.base k f fd ps F) (ar : Ar ps.length F) (hr : Room k X.A) (tk : Takes X W) (hm : X.mg x = some (.ref f)) (hk : PySem.W.keepIn X.K (.ref f) = true) (hb : Binds X.K fd ps []) (ha : FA X Z W (e :: es) fa) (hg : Gl X x := by rfl)
    (hdb : (x == ("__debug__" : Str)) = false := by decide) (he : starEach (e :: es) X.env = (false, eval e X.env) :: starEach es X.env := by rfl) (hpl : (backTo pos (starEach es X.env)).any (·.1) = false := by rfl) :
    FE X Z W (.Call (.Name x p) (e :: es) [] pos) (eCall F fa) := by
  refine PEimp (pe_callSD (dvs := []) (ds := []) (E := fun σ c d H => W c d σ H) Fn hr hg hm hk hb .nil (passesAt_tk tk) ha hdb he hpl) fun σ H Q ⟨ρ, G, env, S, e, h⟩ => ?_
  refine tG_mono (step (rel := RUs (kz X Z)) S e h) fun vs H1 ⟨ρ1, G1, us, p1, s1, S1, e1, r1, h1⟩ => ?_
  rw [List.append_nil]
  refine ⟨?_, Z, ρ1, G1, us, hZ, S1, r1, h1⟩
  rw [← r1.len]
  by_cases hl : us.length = ps.length
  · exact hl
  · rw [ar us G1 hl] at h1; exact h1.elim
theorem fcall0 (hZ : Z.er = none) (Fn : FnF X.prog X.w X.K X.mg X.base k f fd ps F) (ar : Ar ps.length F) (hr : Room k X.A) (tk : Takes X W) (hm : X.mg x = some (.ref f)) (hk : PySem.W.keepIn X.K (.ref f) = true) (hb : Binds X.K fd ps []) (hg : Gl X x := by rfl)
    (hdb : (x == ("__debug__" : Str)) = false := by decide) : FE X Z W (.Call (.Name x p) [] [] pos) (eCall F aNil) := by
  refine ⟨fun pins s σ H Q I h => ?_⟩
  obtain ⟨ρ, G, env, S, e, h⟩ := h
  have h : Post (kz X Z) (RU (kz X Z)) ρ H (F [] G) Q fun c d H' => W c d σ H' := h
  refine wpAny_Call_Name_kw (ld_glob I hg hm ?_ hdb)
  refine PySem.W.callWith_K0 I.kIn hk (run_fnSD (us := []) (vs := []) (dvs := []) (E := fun σ c d H => W c d σ H) Fn hr hb .nil (passesAt_tk tk σ) I .nil ?_)
  refine ⟨?_, Z, ρ, G, [], hZ, S, .nil, h⟩
  by_cases hl : ([] : List U).length = ps.length
  · exact hl
  · rw [ar [] G hl] at h; exact h.elim
/-! keywords -/
def pickL {α : Type} (idx : List Nat) (xs : List α) : List α := idx.filterMap fun i => xs[i]?
def gK {α : Type} (a b : Nat) (idx : List Nat) (us ws : List α) : List α := if us.length = a ∧ ws.length = b then pickL idx (us ++ ws) else []
theorem pick_vals {xs : List V} {us : List Value} (r : Vals xs us) : ∀ idx : List Nat, Vals (pickL idx xs) (pickL idx us)
  | [] => .nil
  | i :: r' => by
    have ih := pick_vals r r'
    unfold pickL at ih ⊢
    rw [List.filterMap_cons, List.filterMap_cons]
    cases q : xs[i]? with
    | none => rw [r.none_of q]; exact ih
    | some v =>
      obtain ⟨u, e, ru⟩ := r.get q
      rw [e]
      exact .cons ru ih
theorem pick_rel {K : KZ} {ρ : List Addr} {H : Hp} {us : List U} {xs : List V} (r : RUs K ρ H us xs) : ∀ idx : List Nat, RUs K ρ H (pickL idx us) (pickL idx xs)
  | [] => .nil
  | i :: r' => by
    have ih := pick_rel r r'
    unfold pickL at ih ⊢
    rw [List.filterMap_cons, List.filterMap_cons]
    cases q : us[i]? with
    | none =>
      have q2 : xs[i]? = none := List.getElem?_eq_none_iff.mpr (by rw [← r.len]; exact List.getElem?_eq_none_iff.mp q)
      rw [q2]; exact ih
    | some v =>
      obtain ⟨u, e, ru⟩ := r.getU q
      rw [e]
      exact .cons ru ih
theorem gK_vals {a b : Nat} {idx : List Nat} {xs ys : List V} {us ws : List Value} (r : Vals xs us) (q : Vals ys ws) : Vals (gK a b idx xs ys) (gK a b idx us ws) := by
  unfold gK
  rw [r.length, q.length]
  split
  · exact pick_vals (r.append q) idx
  · exact .nil
theorem gK_rel {K : KZ} {ρ : List Addr} {H : Hp} {a b : Nat} {idx : List Nat} {xs ys : List U} {us ws : List V} (r : RUs K ρ H xs us) (q : RUs K ρ H ys ws) : RUs K ρ H (gK a b idx xs ys) (gK a b idx us ws) := by
  unfold gK
  rw [r.len, q.len]
  split
  · exact pick_rel (r.append q) idx
  · exact .nil
abbrev FK (X : Cx) (Z : ZZ X.K) (W : WX) (kws : List Keyword) (f : Ev → Gp → R (List U)) : Prop := PK X kws (taF (kz X Z) W f)
theorem PKimp {kws : List Keyword} {t t' : TA} (h : PK X kws t) (i : ∀ σ H Q, t' σ H Q → t σ H Q) : PK X kws t' := ⟨fun pos pins s σ H Q I q => h.run pos pins s σ H Q I (i σ H Q q)⟩
theorem fknil : FK X Z W [] aNil := by
  refine PKimp pk_nil fun σ H Q ⟨ρ, G, env, S, e, h⟩ => ?_
  exact Post.end_ (a := ([] : List U)) h S .nil
theorem fkcons {e : Expr} {kws : List Keyword} {nm : Option Str} {kpos : Pos} {f : Ev → Gp → R U} {fs : Ev → Gp → R (List U)} (ha : FE X Z W e f) (hr : FK X Z W kws fs) : FK X Z W (⟨nm, e, kpos⟩ :: kws) (aCons f fs) := by
  refine PKimp (pk_cons ha hr) fun σ H Q ⟨ρ, G, env, S, e, h⟩ => ?_
  refine tG_mono (step S e h) fun v H1 ⟨ρ1, G1, x, p1, s1, S1, e1, r1, h1⟩ => ?_
  exact tG_mono (step S1 e1 h1) fun w H2 ⟨ρ2, G2, y, p2, s2, S2, e2, r2, h2⟩ => h2.end_ S2 (.cons (r1.mono p2 s2) r2)
def eCallK (F : List U → Gp → R U) (a b : Nat) (idx : List Nat) (fa fk : Ev → Gp → R (List U)) : Ev → Gp → R U := fun env G => (fa env G).bind fun us G1 => (fk env G1).bind fun ws G2 => F (gK a b idx us ws) G2
theorem run_fnkSD {ks : List Str} {g : List Value → List Value → List Value} {gV : List V → List V → List V} {CX0 : CXT} {sp : Sp} {E : XK} {pins : List (Addr × Obj)} {σ : St} {H : Hp} {s : Shared} {Q : VK} {us ws : List Value} {vs zs : List V} (F : FnOk X.prog X.w X.K X.mg X.base CX0 k f fd ps sp) (hr : Room k X.A) (hb : KBinds X.K fd ps ks g gV) (hx : PassesAt CX0 X σ E)
    (I : Inv X pins σ H s) (r : Vals vs us) (rz : Vals zs ws) (h : sp (gV vs zs) H Q E) : wpAny (model X.prog X.w) X.A (call (.ref f) us (ks.zip ws)) (EP X pins σ Q) X.xe s := by
  have r2 := hb.rel r rz
  have hl : (g us ws).length = ps.length := by rw [← r2.length]; exact F.len _ _ _ _ h
  refine wpAny_call (codeAny_mono (F.run X.A X.stack s H ⟨us, ks.zip ws⟩ (g us ws) (gV vs zs) Q E hr I.env0 (hb.to s us ws I.kIn hl) r2 h) fun r s' hq => ?_)
  cases r with
  | error e => exact hx pins H s e s' I hq
  | ok fl =>
    cases fl with
    | ret u => exact I.after hq
    | next => exact False.elim hq
    | brk => exact False.elim hq
    | cont => exact False.elim hq
theorem fcallK0 {ks : List Str} {b : Nat} {idx : List Nat} {kws : List Keyword} {fk : Ev → Gp → R (List U)} (hZ : Z.er = none) (Fn : FnF X.prog X.w X.K X.mg X.base k f fd ps F) (ar : Ar ps.length F) (hr : Room k X.A) (tk : Takes X W) (hm : X.mg x = some (.ref f)) (hk : PySem.W.keepIn X.K (.ref f) = true)
    (hb : KBinds X.K fd ps ks (gK 0 b idx) (gK 0 b idx)) (hkw : FK X Z W kws fk) (hg : Gl X x := by rfl) (hall : (backToKw pos (keywordEach kws X.env)).all (·.1.isSome) = true := by rfl) (hks : (backToKw pos (keywordEach kws X.env)).filterMap (·.1) = ks := by rfl)
    (hdb : (x == ("__debug__" : Str)) = false := by decide) (hpl : ((backTo pos (starEach ([] : List Expr) X.env)).any (·.1) || (backToKw pos (keywordEach kws X.env)).any (·.1.isNone)) = false := by rfl) :
    FE X Z W (.Call (.Name x p) [] kws pos) (eCallK F 0 b idx aNil fk) := by
  refine ⟨fun pins s σ H Q I h => ?_⟩
  obtain ⟨ρ, G, env, S, e, h⟩ := h
  refine wpAny_Call_Name_kw (ld_glob I hg hm ?_ hdb)
  have h : Post (kz X Z) (RU (kz X Z)) ρ H ((fk env G).bind fun ws G2 => F (gK 0 b idx [] ws) G2) Q fun c d H' => W c d σ H' := h
  refine PySem.W.callWith_KW0 I.kIn hk hall ?_ hpl
  refine thn (hkw.run pos pins s σ H _ I (step (rel := RUs (kz X Z)) S e h)) fun ws s2 ⟨zs, H2, I2, rz, ρ1, G1, us, p1, s1, S1, e1, r1, h1⟩ => ⟨I2.kIn, ?_⟩
  rw [hks]
  refine run_fnkSD (us := []) (vs := []) Fn hr hb (passesAt_tk tk σ) I2 .nil rz ?_
  have rr : RUs (kz X Z) ρ1 H2 (gK 0 b idx [] us) (gK 0 b idx [] zs) := gK_rel .nil r1
  refine ⟨?_, Z, ρ1, G1, _, hZ, S1, rr, h1⟩
  rw [← rr.len]
  by_cases hl : (gK 0 b idx [] us).length = ps.length
  · exact hl
  · rw [ar _ G1 hl] at h1; exact h1.elim
theorem fcallK {ks : List Str} {a b : Nat} {idx : List Nat} {kws : List Keyword} {fk : Ev → Gp → R (List U)} (hZ : Z.er = none) (Fn : FnF X.prog X.w X.K X.mg X.base k f fd ps F) (ar : Ar ps.length F) (hr : Room k X.A) (tk : Takes X W) (hm : X.mg x = some (.ref f)) (hk : PySem.W.keepIn X.K (.ref f) = true)
    (hb : KBinds X.K fd ps ks (gK a b idx) (gK a b idx)) (ha : FA X Z W (e :: es) fa) (hkw : FK X Z W kws fk) (hg : Gl X x := by rfl) (hall : (backToKw pos (keywordEach kws X.env)).all (·.1.isSome) = true := by rfl) (hks : (backToKw pos (keywordEach kws X.env)).filterMap (·.1) = ks := by rfl)
    (hdb : (x == ("__debug__" : Str)) = false := by decide) (he : starEach (e :: es) X.env = (false, eval e X.env) :: starEach es X.env := by rfl)
    (hpl : ((backTo pos (starEach (e :: es) X.env)).any (·.1) || (backToKw pos (keywordEach kws X.env)).any (·.1.isNone)) = false := by rfl) :
    FE X Z W (.Call (.Name x p) (e :: es) kws pos) (eCallK F a b idx fa fk) := by
  refine ⟨fun pins s σ H Q I h => ?_⟩
  obtain ⟨ρ, G, env, S, e, h⟩ := h
  refine wpAny_Call_Name_kw (ld_glob I hg hm ?_ hdb)
  refine PySem.W.callWith_KW (h₀ := X.base) I.ok.mod.kin hk hall (thn (ha.run pos pins s σ H _ I (step (rel := RUs (kz X Z)) S e h)) fun us0 s1 ⟨vs, H1, I1, r, ρ1, G1, us, p1, st1, S1, e1, r1, h1⟩ => ?_) hpl he
  refine thn (hkw.run pos pins s1 σ H1 _ I1 (step (rel := RUs (kz X Z)) S1 e1 h1)) fun ws s2 ⟨zs, H2, I2, rz, ρ2, G2, us2, p2, st2, S2, e2, r2, h2⟩ => ⟨I2.kIn, ?_⟩
  rw [hks]
  refine run_fnkSD Fn hr hb (passesAt_tk tk σ) I2 r rz ?_
  have rr : RUs (kz X Z) ρ2 H2 (gK a b idx us us2) (gK a b idx vs zs) := gK_rel (r1.mono p2 st2) r2
  refine ⟨?_, Z, ρ2, G2, _, hZ, S2, rr, h2⟩
  rw [← rr.len]
  by_cases hl : (gK a b idx us us2).length = ps.length
  · exact hl
  · rw [ar _ G2 hl] at h2; exact h2.elim
end
theorem kbinds_of {K : PySem.W.Frag} {x qual : Str} {params : Arguments} {body : List Stmt} {scope : Scope} {kws : List (Str × V)} {f : Addr} {fd : FuncData} {ps ks : List Str} (F : FunD K x qual params body scope [] kws f fd) (a b : Nat) (idx : List Nat) (ne : ps.length ≠ 0)
    (h : ∀ (kV doc pm : Value) (an : Option Addr) (cdv ct : Value) (us ws : List Value), us.length = a → ws.length = b → bindArgs (PySem.W.fnOf x qual params body scope .none kV doc pm an cdv ct) ⟨us, ks.zip ws⟩ = pure (ps.zip (pickL idx (us ++ ws)))) : KBinds K fd ps ks (gK a b idx) (gK a b idx) := by
  obtain ⟨oc, od, dV, kV, doc, pm, an, cdv, ct, osl, rfl, lk, hcd, hD, _⟩ := F.ex
  rcases hD with ⟨_, rfl⟩ | ⟨e, _⟩
  · refine ⟨fun s us ws _ hl => ?_, fun r q => gK_vals r q⟩
    unfold gK at hl ⊢
    by_cases hh : us.length = a ∧ ws.length = b
    · rw [if_pos hh]
      exact .of_eq (h _ _ _ _ _ _ us ws hh.1 hh.2)
    · rw [if_neg hh] at hl
      exact absurd hl.symm ne
  · exact absurd rfl e
end FL

set_option Elab.async false
set_option linter.all false
set_option maxRecDepth 100000
set_option maxHeartbeats 4000000
/-! several except clauses, with or without a name: the two rules of TryMany and Exc (ps_try_many, ps_try_as) in one -/
namespace L2
open PySem PySem.Spec PyProof.Rows
abbrev Sui := Addr → Value → Option Addr → TS
def D_un (D : Ends) (i : Nat) : Ends := { nx := fun σ' H' => D.nx (σ'.set i none) H', rt := D.rt, bk := fun σ' H' => D.bk (σ'.set i none) H', ct := fun σ' H' => D.ct (σ'.set i none) H' }
def wManyA (K : PySem.W.Frag) (Wout : WX) (D : Ends) : List (Value × Option Nat × Sui) → WX
  | [] => Wout
  | (c, none, ts) :: r => fun cls d σ H => ∃ b, PySem.W.exmOne K cls c = some b ∧ (b = true → ∀ a, H a = none → ts a cls d D σ H) ∧ (b = false → wManyA K Wout D r cls d σ H)
  | (c, some i, ts) :: r => fun cls d σ H => ∃ b, PySem.W.exmOne K cls c = some b ∧ (b = true → ∀ a, H a = none → ts a cls d (D_un D i) (σ.set i (some (.ref a))) H) ∧ (b = false → wManyA K Wout D r cls d σ H)
inductive HdsA (X : Cx) : List ExceptHandler → List (Value × Option Nat × Sui) → Prop
  | nil : HdsA X [] []
  | cons {x : Str} {c : Value} {ts : Sui} {b₀ : Stmt} {suite : List Stmt} {np pos' : Pos} {hds : List ExceptHandler} {l : List (Value × Option Nat × Sui)} (hc : Names X x c)
      (hsu : ∀ (a : Addr) (oe : Obj) (cls : Value) (d : Option Addr) (pn : List (Addr × Obj)), Zc cls d oe → (∃ vs, oe.data = .fields vs) → PSs (X.suite a ((a, oe) :: pn)) (b₀ :: suite) (ts a cls d)) (r : HdsA X hds l) :
      HdsA X (.ExceptHandler (some (.Name x np)) none (b₀ :: suite) pos' :: hds) ((c, none, ts) :: l)
  | as {x n : Str} {i : Nat} {c : Value} {ts : Sui} {b₀ : Stmt} {suite : List Stmt} {np pos' : Pos} {hds : List ExceptHandler} {l : List (Value × Option Nat × Sui)} (hc : Names X x c) (hi : X.N[i]? = some n) (hln : X.env.kindOf n = some .local)
      (hsu : ∀ (a : Addr) (oe : Obj) (cls : Value) (d : Option Addr) (pn : List (Addr × Obj)), Zc cls d oe → (∃ vs, oe.data = .fields vs) → PSs (X.suite a ((a, oe) :: pn)) (b₀ :: suite) (ts a cls d)) (r : HdsA X hds l) :
      HdsA X (.ExceptHandler (some (.Name x np)) (some n) (b₀ :: suite) pos' :: hds) ((c, some i, ts) :: l)
section
variable {X : Cx} {body : List Stmt} {h₀ : ExceptHandler} {hds : List ExceptHandler} {l : List (Value × Option Nat × Sui)} {pos : Pos} {tb : WX → TS} {Wout : WX}
theorem ps_try_A (hs : X.stack = X.env :: X.outer) (hf : X.env.frame = some X.env.locals) (hN : X.N.Nodup) (tk : Takes X Wout)
    (hb : ∀ (W : WX) (pn : List (Addr × Obj)) (xe : Value → Shared → Prop), Takes (X.tr pn xe) W → PassesOwn (model X.prog X.w) X.A X.env xe → PSs (X.tr pn xe) body (tb W))
    (hh : HdsA X (h₀ :: hds) l) : PS X (.Try body (h₀ :: hds) [] [] pos) (fun D σ H => tb (wManyA X.K Wout D l) D σ H) := by
  refine ⟨fun pins s σ H D I h => ?_⟩
  have ok := I.ok
  have hfr : X.A.frames = some (X.env :: X.outer) := by rw [ok.frames, hs]
  refine wpAny_Try_except ?_
  refine wpAny_mono ((hb (wManyA X.K Wout D l) (X.pn ++ pins) (fun e s₁ => wpAny (model X.prog X.w) X.A (noteFrame e X.env) (fun _ s₂ => wpAny (model X.prog X.w) X.A (setFlight e none) (fun _ s₃ =>
    wpAny (model X.prog X.w) X.A (handleBy e X.env (h₀ :: hds)) (SP X pins D) X.xe s₃) X.xe s₂) X.xe s₁) (fun u s' xx => ?_) PassesOwn.looking).run [] s σ H D (I.toTry _) h) (fun f s1 hsp => ?_) (fun e s1 he => he)
  · obtain ⟨a, B, sI, pins', σ', H', cls, d, rfl, J', nb, up, sky, na, os, ag, w⟩ := xx
    have J : Inv X pins σ' H' sI := J'.ofTry ok
    have sky' : Sky B (X.env :: X.outer) a (Zc cls d) X.env.locals s'.heap := by rw [← hs]; exact sky
    show wpAny (model X.prog X.w) X.A (noteFrame (.ref a) X.env) _ _ _
    refine Sky.land Zc.steady hfr hf sky' fun h3 fl3 up3 => ?_
    have J3 : Inv X pins σ' H' { s' with heap := h3 } := J.landed nb fl3.1 (up.trans up3) os ag
    obtain ⟨oe3, vs3, he3, hz3, hd3⟩ := fl3.there
    have notFr : ∀ {h : Heap} {o : Obj} {vs : Array Value}, h.FunFrames B (X.env :: X.outer) → h.get? a = some o → o.data = .fields vs → a ∉ frs (X.env :: X.outer) := fun {h o vs} ff e dd hm => by
      obtain ⟨_, o', e', hnf⟩ := ff.mem hm
      rw [e] at e'; cases e'
      exact hnf _ dd
    have nfr := notFr fl3.2.2.1 he3 hd3
    have nL : a ≠ X.env.locals := fun z => nfr (List.mem_filterMap.mpr ⟨X.env, List.mem_cons_self, by rw [hf, z]⟩)
    have nF : a ∉ X.fs := fun hm => by
      obtain ⟨e, he, q⟩ := List.mem_filterMap.mp hm
      exact nfr (List.mem_filterMap.mpr ⟨e, List.mem_cons_of_mem _ he, q⟩)
    have S3 := J3.suite he3 hd3 na nL nF
    have LT : PySem.W.Looks (model X.prog X.w) h3 (typeOf (.ref a)) cls := fun A Q E s k q => wpAny_typeOf_ref (k _ _ he3) (by rw [hz3.1]; exact q)
    have go : ∀ {hds' : List ExceptHandler} {l' : List (Value × Option Nat × Sui)}, HdsA X hds' l' → wManyA X.K Wout D l' cls d σ' H' →
        wpAny (model X.prog X.w) X.A (handleBy (.ref a) X.env hds') (SP X pins D) X.xe { s' with heap := h3 } := by
      intro hds' l' hk
      induction hk with
      | nil =>
        intro w
        refine wpAny_handleBy_nil ?_
        obtain ⟨k1, k2, k3, oe, vs, T, oT, ts', he, hz, hd, h1, hr⟩ := id fl3
        unfold PySem.passOn
        refine wpAny_bind (wpAny_field he hd h1 ?_)
        rw [if_neg (show ¬ ((Value.ref T == Value.none) = true) from by simp)]
        have fin : wpAny (model X.prog X.w) X.A (setFlight (.ref a) X.env.frame) (fun _ s4 => wpAny (model X.prog X.w) X.A (throw (.ref a) : Sem Flow) (SP X pins D) X.xe s4) X.xe { s' with heap := h3 } := by
          rw [hf]
          refine HandSPX.setFlight_upZ fl3 fun h4 hh4 up4 => wpAny_throw (tk _ _ ?_)
          exact ⟨a, B, sI, pins, σ', H', cls, d, rfl, J, nb, (up.trans up3).trans up4, .inr (.inr (by rw [hs]; exact hh4)), na, os, ag, w⟩
        first
          | exact wpAny_bind (wpAny_pure (wpAny_bind fin))
          | exact wpAny_bind fin
      | @cons x c ts b₀ suite np pos' hds2 l2 hc hsu r ih =>
        intro w
        obtain ⟨b, hb1, hyes, hno⟩ := w
        refine wpAny_handleBy_cons (codeAny_handlers_test ?_) (by intro q; cases q)
        have LM := PySem.W.exm_one (M := model X.prog X.w) (J3.kIn) LT hb1
        have test : ∀ {Q : Value → Shared → Prop} {E : Value → Shared → Prop}, Q c { s' with heap := h3 } → wpAny (model X.prog X.w) (X.A.mark (some (.ref a))) (eval (.Name x np) X.env) Q E { s' with heap := h3 } := fun {Q E} q => by
          obtain ⟨hg, hdbg, hm | ⟨hm, hv, hnn⟩⟩ := hc
          · exact ld_glob (X := X.suite a ((a, oe3) :: (X.pn ++ pins))) S3 hg hm q hdbg
          · exact ld_blt (X := X.suite a ((a, oe3) :: (X.pn ++ pins))) S3 hg hm hv q hnn hdbg
        refine test (LM.here ?_)
        cases b with
        | true =>
          refine codeAny_handlers_suite ?_
          refine HandSPX.lands_againZ fl3 fun h4 fl4 up4 => ?_
          have J4 : Inv X pins σ' H' { s' with heap := h4 } := J.landed nb fl4.1 ((up.trans up3).trans up4) os ag
          obtain ⟨oe4, vs4, he4, hz4, hd4⟩ := fl4.there
          have S4 := J4.suite he4 hd4 na nL nF
          refine wpAny_mono ((hsu a oe4 cls d (X.pn ++ pins) hz4 ⟨_, hd4⟩).run [] _ _ H' _ S4 (hyes rfl a na)) (fun f s6 hsp => ?_) (fun _ _ z => False.elim z)
          cases f with
          | next =>
            obtain ⟨σ6, H6, S6, q6⟩ := hsp
            exact ⟨_, _, S6.unsuite ok, q6⟩
          | brk =>
            obtain ⟨σ6, H6, S6, q6⟩ := hsp
            exact ⟨_, _, S6.unsuite ok, q6⟩
          | cont =>
            obtain ⟨σ6, H6, S6, q6⟩ := hsp
            exact ⟨_, _, S6.unsuite ok, q6⟩
          | ret u =>
            obtain ⟨v6, σ6, H6, S6, r6, q6⟩ := hsp
            exact ⟨_, _, _, S6.unsuite ok, r6, q6⟩
        | false =>
          show wpAny _ X.A (handleBy (.ref a) X.env hds2) _ _ _
          exact ih (hno rfl)
      | @as x n i c ts b₀ suite np pos' hds2 l2 hc hi hln hsu r ih =>
        intro w
        obtain ⟨b, hb1, hyes, hno⟩ := w
        refine wpAny_handleBy_cons (codeAny_handlers_test ?_) (by intro q; cases q)
        have hloc : Loc X.env.scope n := .inl hln
        have LM := PySem.W.exm_one (M := model X.prog X.w) (J3.kIn) LT hb1
        have test : ∀ {Q : Value → Shared → Prop} {E : Value → Shared → Prop}, Q c { s' with heap := h3 } → wpAny (model X.prog X.w) (X.A.mark (some (.ref a))) (eval (.Name x np) X.env) Q E { s' with heap := h3 } := fun {Q E} q => by
          obtain ⟨hg, hdbg, hm | ⟨hm, hv, hnn⟩⟩ := hc
          · exact ld_glob (X := X.suite a ((a, oe3) :: (X.pn ++ pins))) S3 hg hm q hdbg
          · exact ld_blt (X := X.suite a ((a, oe3) :: (X.pn ++ pins))) S3 hg hm hv q hnn hdbg
        refine test (LM.here ?_)
        cases b with
        | true =>
          refine codeAny_handlers_suite_as ?_
          refine HandSPX.lands_againZ fl3 fun h4 fl4 up4 => ?_
          have J4 : Inv X pins σ' H' { s' with heap := h4 } := J.landed nb fl4.1 ((up.trans up3).trans up4) os ag
          obtain ⟨oe4, vs4, he4, hz4, hd4⟩ := fl4.there
          have S4 := J4.suite he4 hd4 na nL nF
          refine store_ok (X := X.suite a ((a, oe4) :: (X.pn ++ pins))) (v := .ref a) S4 hN hi hloc rfl (fun s5 S5 => ?_) (.inr hln)
          refine wpAny_mono ((hsu a oe4 cls d (X.pn ++ pins) hz4 ⟨_, hd4⟩).run [] s5 _ H' _ S5 (hyes rfl a na)) (fun f s6 hsp => ?_) (fun _ _ z => False.elim z)
          have end_ : ∀ {σ6 : St} {H6 : Hp} {Q : Shared → Prop}, Inv (X.suite a ((a, oe4) :: (X.pn ++ pins))) [] σ6 H6 s6 → (∀ s7, Inv X pins (σ6.set i none) H6 s7 → Q s7) →
              wpAny (model X.prog X.w) X.A (do bindName X.env n .none; unbindBehindTheSuite X.env n pos') (fun _ s7 => Q s7) X.xe s6 := fun {σ6 H6 Q} S6 hq => gone_ok (S6.unsuite ok) hN hi hln hq
          cases f with
          | next =>
            obtain ⟨σ6, H6, S6, q6⟩ := hsp
            exact end_ S6 fun s7 J7 => ⟨_, _, J7, q6⟩
          | brk =>
            obtain ⟨σ6, H6, S6, q6⟩ := hsp
            exact end_ S6 fun s7 J7 => ⟨_, _, J7, q6⟩
          | cont =>
            obtain ⟨σ6, H6, S6, q6⟩ := hsp
            exact end_ S6 fun s7 J7 => ⟨_, _, J7, q6⟩
          | ret u =>
            obtain ⟨v6, σ6, H6, S6, r6, q6⟩ := hsp
            exact end_ S6 fun s7 J7 => ⟨_, _, _, J7, r6, q6⟩
        | false =>
          show wpAny _ X.A (handleBy (.ref a) X.env hds2) _ _ _
          exact ih (hno rfl)
    exact go hh w
  · cases f with
    | next =>
      obtain ⟨σ', H', J', q⟩ := hsp
      exact wpAny_execs_nil ⟨σ', H', J'.ofTry ok, q⟩
    | brk =>
      obtain ⟨σ', H', J', q⟩ := hsp
      exact ⟨σ', H', J'.ofTry ok, q⟩
    | cont =>
      obtain ⟨σ', H', J', q⟩ := hsp
      exact ⟨σ', H', J'.ofTry ok, q⟩
    | ret u =>
      obtain ⟨v, σ', H', J', r, q⟩ := hsp
      exact ⟨v, σ', H', J'.ofTry ok, r, q⟩
end
/-! the facts of a class of errors, by a look that computes -/
def oexB (K : PySem.W.Frag) (C : Addr) : Bool := (match K.lookup C with
  | some ⟨.type "type", _, .cls cd, sl⟩ => (match cd.mro, sl.toList with
    | .ref C' :: bm, [_, _, _, _, some (.builtin n), _] => C' == C && n == "ValueError.__new__" && !cd.hasDel && cd.hasDict && PySem.HandSPX.refsVE bm
    | _, _ => false)
  | _ => false) && (decide (PySem.W.findIn K (.ref C) "__setattr__" = some (some (.builtin "object.__setattr__"))) && (decide (PySem.W.subIn K (.ref C) (.type "BaseException") = some true) && (decide (PySem.W.typeIn K (.ref C) = some (.type "type")) && PySem.W.keepIn K (.ref C))))
theorem oexB_ok {K : PySem.W.Frag} {C : Addr} (h : oexB K C = true) : OexC K C := by
  unfold oexB at h
  rw [Bool.and_eq_true, Bool.and_eq_true, Bool.and_eq_true, Bool.and_eq_true] at h
  obtain ⟨q, h1, h2, h3, h4⟩ := h
  refine ⟨?_, of_decide_eq_true h1, of_decide_eq_true h2, of_decide_eq_true h3, h4⟩
  split at q
  · rename_i dd cd sl ho
    split at q
    · rename_i C' bm k0 k1 k2 k3 n k5 hm hs
      simp only [Bool.and_eq_true, beq_iff_eq, Bool.not_eq_true'] at q
      obtain ⟨⟨⟨⟨rfl, rfl⟩, hdel⟩, hhd⟩, ht⟩ := q
      obtain ⟨nm, bs, mro, ns, qn, hd, sn, sub, ab, col, del⟩ := cd
      dsimp only at hm hdel hhd
      subst hm hdel hhd
      have hsl : sl = #[k0, k1, k2, k3, some (.builtin "ValueError.__new__"), k5] := by
        obtain ⟨l⟩ := sl
        simp only at hs
        rw [hs]
      subst hsl
      exact ⟨nm, qn, ns, bs, bm, sn, sub, ab, col, dd, k0, k1, k2, k3, k5, ho, ht⟩
    · cases q
  · cases q
end L2

set_option Elab.async false
set_option linter.all false
set_option maxRecDepth 100000
set_option maxHeartbeats 4000000
set_option autoImplicit false
namespace FL
open PySem PySem.Spec L2

/-! ### raise C(e, ..), C a class of errors whose __init__ stores its arguments -/
/-- what the written part says of such a class: its name, its fields -/
structure ExK (K : PySem.W.Frag) (mg : Str → Option Value) (c : Str) (fI : Addr) (fs : List Str) : Prop where
  T : OexC K (He.ga K c)
  iC : PySem.W.findIn K (.ref (He.ga K c)) "__init__" = some (some (.ref fI))
  tI : PySem.W.typeIn K (.ref fI) = some (.type "function")
  no : ∀ f ∈ fs, PySem.W.findIn K (.ref (He.ga K c)) f = some none
  gC : mg c = some (.ref (He.ga K c))
/-- __init__'s promise, one field, two -/
def spI (K : PySem.W.Frag) (C : Addr) (fs : List Str) : Sp := fun vs H Q _ => ∃ (a : Addr) (ws : List V), vs = .ref a :: ws ∧ ws.length = fs.length ∧ H a = some (exo a C none) ∧ OexC K C ∧
  (∀ f ∈ fs, PySem.W.findIn K (.ref C) f = some none) ∧ ∀ dx, H dx = none → dx ≠ a → Q .non (upd (upd (upd H dx (exd dx [])) a (exo a C (some dx))) dx (exd dx (fs.zip ws).reverse))
section
variable {P : Program} {w : World} {K : PySem.W.Frag} {mg : Str → Option Value} {base : Heap}
theorem upd_mid {H : Hp} {a dx : Addr} {o1 o2 o3 : HO} (ne : dx ≠ a) : upd (upd (upd H dx o1) a o2) dx o3 = upd (upd H dx o3) a o2 := by
  funext b
  unfold upd
  by_cases h1 : b = dx
  · subst h1
    rw [if_pos rfl, if_neg ne, if_pos rfl]
  · rw [if_neg h1]
    by_cases h2 : b = a
    · rw [if_pos h2, if_pos h2]
    · rw [if_neg h2, if_neg h2, if_neg h1, if_neg h1]
theorem okI1 {x qual f : Str} {params : Arguments} {body : List Stmt} {scope : Scope} {C fI : Addr} {fd : FuncData} {N : List Str} (F : FunD K x qual params body scope [] [] fI fd) (S : FnScope N ["self", f] scope) (hN : N.length = 2)
    (hb : ∀ (cdv : Value) (A : Around) (outer : List Env) (s : Shared) (H : Hp) (E : XK), PSs (cxOf (CX P w) P w K mg base N qual scope fI cdv A outer s H E) body (tOst K f (tVar 0) (tVar 1))) : FnOk P w K mg base (CX P w) 1 fI fd ["self", f] (spI K C [f]) := by
  refine F.ok S (fun vs H Q E h => ?_) fun cdv A outer s H vs Q E hr h => ?_
  · obtain ⟨a, ws, rfl, hl, _⟩ := h
    simp at hl ⊢; exact hl
  · obtain ⟨a, ws, rfl, hl, ha, T, no, q⟩ := h
    obtain ⟨y, rfl⟩ : ∃ y, ws = [y] := by
      cases ws with
      | nil => simp at hl
      | cons y r =>
        cases r with
        | nil => exact ⟨y, rfl⟩
        | cons _ _ => simp at hl
    refine ⟨_, hb cdv A outer s H E, ?_⟩
    have e : L2.start N [.ref a, y] = [some (.ref a), some y] := by simp [L2.start, hN]
    rw [e]
    refine ⟨y, rfl, .ref a, rfl, a, C, rfl, T, no f (by simp), .inl ⟨ha, fun dx n ne => ?_⟩⟩
    have z := q dx n ne
    rw [upd_mid ne] at z
    exact z
theorem okI2 {x qual f g : Str} {params : Arguments} {body : List Stmt} {scope : Scope} {C fI : Addr} {fd : FuncData} {N : List Str} (F : FunD K x qual params body scope [] [] fI fd) (S : FnScope N ["self", f, g] scope) (hN : N.length = 3)
    (hb : ∀ (cdv : Value) (A : Around) (outer : List Env) (s : Shared) (H : Hp) (E : XK), PSs (cxOf (CX P w) P w K mg base N qual scope fI cdv A outer s H E) body (tSeq (tOst K f (tVar 0) (tVar 1)) (tOst K g (tVar 0) (tVar 2)))) : FnOk P w K mg base (CX P w) 1 fI fd ["self", f, g] (spI K C [f, g]) := by
  refine F.ok S (fun vs H Q E h => ?_) fun cdv A outer s H vs Q E hr h => ?_
  · obtain ⟨a, ws, rfl, hl, _⟩ := h
    simp at hl ⊢; exact hl
  · obtain ⟨a, ws, rfl, hl, ha, T, no, q⟩ := h
    obtain ⟨y, y', rfl⟩ : ∃ y y', ws = [y, y'] := by
      match ws, hl with
      | [y, y'], _ => exact ⟨y, y', rfl⟩
    refine ⟨_, hb cdv A outer s H E, ?_⟩
    have e : L2.start N [.ref a, y, y'] = [some (.ref a), some y, some y'] := by simp [L2.start, hN]
    rw [e]
    refine ⟨y, rfl, .ref a, rfl, a, C, rfl, T, no f (by simp), .inl ⟨ha, fun dx n ne => ?_⟩⟩
    refine ⟨y', rfl, .ref a, rfl, a, C, rfl, T, no g (by simp), .inr ⟨dx, [(f, y)], upd_same, ?_, by show 1 ≤ 900; decide, ?_⟩⟩
    · rw [upd_ne ne, upd_same]
    · have z := q dx n ne
      have e2 : upd (upd (upd H dx (exd dx [(f, y)])) a (exo a C (some dx))) dx (exd dx [(g, y'), (f, y)]) = upd (upd (upd H dx (exd dx [])) a (exo a C (some dx))) dx (exd dx (([f, g].zip [y, y']).reverse)) := by
        rw [upd_mid ne, upd_mid ne]; rfl
      rw [e2]
      exact z
end
def sRaise (c : Str) (fs : List Str) (fa : Ev → Gp → R (List U)) : Ev → Gp → SR := fun env G => (fa env G).andThen env fun us G1 => if us.length = fs.length then .exc c (fs.zip us).reverse env G1 else .bad
section
variable {X : Cx} {Z : ZZ X.K} {W : WX} {c : Str} {fI : Addr} {fs : List Str} {fd : FuncData} {ps : List Str} {p pos pos2 : Pos} {e : Expr} {es : List Expr} {fa : Ev → Gp → R (List U)} {k : Nat}
theorem zip_rel {K : KZ} {ρ : List Addr} {H : Hp} (fs : List Str) {us : List U} {vs : List V} (r : RUs K ρ H us vs) (hl : us.length = fs.length) : RFs K ρ H (fs.zip us).reverse (fs.zip vs).reverse := by
  have e1 : (fs.zip us).map (·.1) = fs := List.map_fst_zip (by omega)
  have e2 : (fs.zip vs).map (·.1) = fs := List.map_fst_zip (by rw [← r.len]; omega)
  have e3 : (fs.zip us).map (·.2) = us := List.map_snd_zip (by omega)
  have e4 : (fs.zip vs).map (·.2) = vs := List.map_snd_zip (by rw [← r.len]; omega)
  refine ⟨by rw [List.map_reverse, List.map_reverse, e1, e2], ?_⟩
  rw [List.map_reverse, List.map_reverse, e3, e4]
  have rev : ∀ {us : List U} {vs : List V}, RUs K ρ H us vs → RUs K ρ H us.reverse vs.reverse := by
    intro us
    induction us with
    | nil => intro vs r; cases r; exact .nil
    | cons x xs ih =>
      intro vs r
      cases r with
      | cons h t => rw [List.reverse_cons, List.reverse_cons]; exact (ih t).append (.cons h .nil)
  exact rev r
theorem fraise (E : ExK X.K X.mg c fI fs) (F1 : FnOk X.prog X.w X.K X.mg X.base (CX X.prog X.w) 1 fI fd ps (spI X.K (He.ga X.K c) fs)) (hfs : fs.length ≤ 1000) (hb : Binds X.K fd ps []) (hr : Room 2 X.A) (hc : X.calm = true) (tk : Takes X W) (ha : FA X Z W (e :: es) fa) (hg : Gl X c := by rfl)
    (hdb : (c == ("__debug__" : Str)) = false := by decide) (he : starEach (e :: es) X.env = (false, eval e X.env) :: starEach es X.env := by rfl) (hpl : (backTo pos (starEach es X.env)).any (·.1) = false := by rfl) :
    FS X Z W (.Raise (some (.Call (.Name c p) (e :: es) [] pos)) none pos2) (sRaise c fs fa) := by
  refine PSimp (ps_raise hc tk (pmk_oex (dvs := []) (ds := []) E.T E.iC E.tI F1 hr hb .nil (passes_call tk fun _ _ _ _ h => h.elim) hg E.gC ha hdb he hpl)) fun D σ H ⟨ρ, G, env, S, e, h⟩ => ?_
  refine tG_mono (stepS (rel := RUs (kz X Z)) S e h) fun vs H1 ⟨ρ1, G1, us, p1, s1, S1, e1, r1, h1⟩ => ?_
  by_cases hl : us.length = fs.length
  · rw [if_pos hl] at h1
    refine ⟨by rw [← r1.len, hl]; exact hfs, fun a hn => ?_⟩
    rw [List.append_nil]
    have hda : ∀ dx : Addr, upd H1 a (exo a (He.ga X.K c) none) dx = none → dx ≠ a → H1 dx = none := fun dx q ne => by rw [upd_ne ne] at q; exact q
    refine ⟨a, vs, rfl, by rw [← r1.len]; exact hl, upd_same, E.T, E.no, fun dx n ne => ⟨rfl, dx, (fs.zip vs).reverse, ?_, upd_same, hda dx n ne, ?_⟩⟩
    · rw [upd_ne (Ne.symm ne), upd_same]
    · have hdn := hda dx n ne
      have eH : upd (del (upd (upd (upd (upd H1 a (exo a (He.ga X.K c) none)) dx (exd dx [])) a (exo a (He.ga X.K c) (some dx))) dx (exd dx (fs.zip vs).reverse)) a) dx (.xd (fs.zip vs).reverse) = upd H1 dx (.xd (fs.zip vs).reverse) := by
        funext b
        unfold upd del
        by_cases h1 : b = dx
        · simp [h1]
        · by_cases h2 : b = a
          · subst h2; simp [h1, hn]
          · simp [h1, h2]
      rw [eH]
      have st : Stb (kz X Z) H1 (upd H1 dx (.xd (fs.zip vs).reverse)) := stb_new hdn
      exact h1 σ dx _ ρ1 _ pre_refl st (S1.tup hdn) (e1.mono pre_refl st) upd_same ((zip_rel fs r1 hl).mono pre_refl st)
  · rw [if_neg hl] at h1; exact h1.elim
end

/-! ### try: body / except ..: suites -/
/-- what a clause does: the class, the name's slot, the suite by the error's class and fields -/
abbrev Hd := Str × Option Nat × (Str → List (Str × U) → Ev → Gp → SR)
def unE (i : Nat) (r : SR) : SR := match r with
  | .nx e G => .nx (e.set i none) G
  | .brk e G => .brk (e.set i none) G
  | .ct e G => .ct (e.set i none) G
  | .exc _ _ _ _ => .bad
  | r => r
def noExc (r : SR) : SR := match r with
  | .exc _ _ _ _ => .bad
  | r => r
def goH (as : List Str) (c : Str) (fs : List (Str × U)) (env : Ev) (G : Gp) : List Hd → SR
  | [] => .exc c fs env G
  | (h, none, s) :: r => if as.contains h = true then noExc (s c fs env G) else goH as c fs env G r
  | (h, some i, s) :: r => if as.contains h = true then unE i (s c fs (env.set i none) G) else goH as c fs env G r
def sTry (t : List (Str × List Str)) (body : Ev → Gp → SR) (hs : List Hd) : Ev → Gp → SR := fun env G => match body env G with
  | .exc c fs env' G' => match t.lookup c with
    | some as => goH as c fs env' G' hs
    | none => .bad
  | r => r
/-- the caught error: its class, where its fields stand -/
def zE {K : PySem.W.Frag} (Z : ZZ K) (er : Option (Nat × Addr)) (fs : List (Str × U)) (dd : Addr) : ZZ K where
  er := er
  P := fun ρ H => Z.P ρ H ∧ ∃ vfs, H dd = some (.xd vfs) ∧ RFs ⟨K, Z⟩ ρ H fs vfs
  st := fun ρ ρ' H H' p k ⟨h, vfs, e, r⟩ => ⟨Z.st ρ ρ' H H' p k h, vfs, k.xd _ _ e, RFs.mono (K := ⟨K, Z⟩) p k r⟩
section
variable {K : PySem.W.Frag} {Z Z' : ZZ K} {ρ : List Addr} {H : Hp}
mutual
theorem RU.zc : ∀ {u : U} {v : V}, RU ⟨K, Z⟩ ρ H u v → RU ⟨K, Z'⟩ ρ H u v
  | _, _, .non => .non
  | _, _, .bl b => .bl b
  | _, _, .int i => .int i
  | _, _, .str x => .str x
  | _, _, .ref h => .ref h
  | _, _, .tup h r => .tup h (RUs.zc r)
  | _, _, .rl h r => .rl h (RUs.zc r)
theorem RUs.zc : ∀ {u : List U} {v : List V}, RUs ⟨K, Z⟩ ρ H u v → RUs ⟨K, Z'⟩ ρ H u v
  | _, _, .nil => .nil
  | _, _, .cons h t => .cons (RU.zc h) (RUs.zc t)
end
theorem REq0.zc : ∀ {env : Ev} {σ : St}, REq0 ⟨K, Z⟩ ρ H env σ → REq0 ⟨K, Z'⟩ ρ H env σ
  | [], [], _ => trivial
  | none :: us, v :: vs, h => ⟨trivial, REq0.zc h.2⟩
  | some x :: us, some y :: vs, h => ⟨RU.zc h.1, REq0.zc h.2⟩
  | some x :: us, none :: vs, h => h.1.elim
theorem RFs.zc {fs : List (Str × U)} {vfs : List (Str × V)} (h : RFs ⟨K, Z⟩ ρ H fs vfs) : RFs ⟨K, Z'⟩ ρ H fs vfs := ⟨h.1, RUs.zc h.2⟩
theorem RO.zc {o : OU} {ho : HO} (h : RO ⟨K, Z⟩ ρ H o ho) : RO ⟨K, Z'⟩ ρ H o ho := by
  cases o <;> cases ho <;> first | exact h.elim | exact RUs.zc h | exact ⟨h.1, RFs.zc h.2⟩
theorem Sim.zc {G : Gp} (S : Sim ⟨K, Z⟩ ρ G H) (z : Z'.P ρ H) : Sim ⟨K, Z'⟩ ρ G H := ⟨S.len, S.nd, fun l o a h1 h2 => by
  obtain ⟨ho, e, r⟩ := S.ob l o a h1 h2
  exact ⟨ho, e, RO.zc r⟩, z⟩
end
theorem set_none_any {K : KZ} {ρ : List Addr} {H : Hp} (x : Option V) : ∀ {env : Ev} {σ : St}, REq0 K ρ H env σ → ∀ i : Nat, REq0 K ρ H (env.set i none) (σ.set i x)
  | [], [], _, _ => trivial
  | none :: us, v :: vs, h, 0 => ⟨trivial, h.2⟩
  | some _ :: us, some _ :: vs, h, 0 => ⟨trivial, h.2⟩
  | some x :: us, none :: vs, h, _ => h.1.elim
  | none :: us, v :: vs, h, i + 1 => ⟨h.1, set_none_any x h.2 i⟩
  | some _ :: us, some _ :: vs, h, i + 1 => ⟨h.1, set_none_any x h.2 i⟩
section
variable {X : Cx} {Z : ZZ X.K} {W : WX}
/-- the context of a suite: a the error, oe its object, of the class c; its dict at dd -/
abbrev SuX (X : Cx) (a : Addr) (oe : Obj) (pn : List (Addr × Obj)) : Cx := X.suite a ((a, oe) :: pn)
/-- the clauses' suites keep what their words tell -/
inductive FHs (X : Cx) (Z : ZZ X.K) (t : List (Str × List Str)) : List ExceptHandler → List Hd → Prop
  | nil : FHs X Z t [] []
  | cons {x : Str} {s : Str → List (Str × U) → Ev → Gp → SR} {b₀ : Stmt} {suite : List Stmt} {np pos' : Pos} {hds : List ExceptHandler} {l : List Hd} (hc : Names X x (.ref (He.ga X.K x))) (hx : ∀ c as, (c, as) ∈ t → PySem.W.exmOne X.K (.ref (He.ga X.K c)) (.ref (He.ga X.K x)) = some (as.contains x))
      (hsu : ∀ (a : Addr) (oe : Obj) (c : Str) (fs : List (Str × U)) (dd : Addr) (pn : List (Addr × Obj)), c ∈ t.map (·.1) → Zc (.ref (He.ga X.K c)) (some dd) oe → (∃ vs, oe.data = .fields vs) → FSs (SuX X a oe pn) (zE Z none fs dd) W0 (b₀ :: suite) (s c fs)) (r : FHs X Z t hds l) :
      FHs X Z t (.ExceptHandler (some (.Name x np)) none (b₀ :: suite) pos' :: hds) ((x, none, s) :: l)
  | as {x n : Str} {i : Nat} {s : Str → List (Str × U) → Ev → Gp → SR} {b₀ : Stmt} {suite : List Stmt} {np pos' : Pos} {hds : List ExceptHandler} {l : List Hd} (hc : Names X x (.ref (He.ga X.K x))) (hx : ∀ c as, (c, as) ∈ t → PySem.W.exmOne X.K (.ref (He.ga X.K c)) (.ref (He.ga X.K x)) = some (as.contains x))
      (hi : X.N[i]? = some n) (hln : X.env.kindOf n = some .local)
      (hsu : ∀ (a : Addr) (oe : Obj) (c : Str) (fs : List (Str × U)) (dd : Addr) (pn : List (Addr × Obj)), c ∈ t.map (·.1) → Zc (.ref (He.ga X.K c)) (some dd) oe → (∃ vs, oe.data = .fields vs) → FSs (SuX X a oe pn) (zE Z (some (i, a)) fs dd) W0 (b₀ :: suite) (s c fs)) (r : FHs X Z t hds l) :
      FHs X Z t (.ExceptHandler (some (.Name x np)) (some n) (b₀ :: suite) pos' :: hds) ((x, some i, s) :: l)
end
end FL

set_option Elab.async false
set_option linter.all false
set_option maxRecDepth 100000
set_option maxHeartbeats 4000000
set_option autoImplicit false
namespace FL
open PySem PySem.Spec L2

section
variable {X : Cx} {Z : ZZ X.K} {W : WX}
/-- what a suite wants: the error's class, dict and fields are known -/
def tsS (K : PySem.W.Frag) (Z : ZZ K) (t : List (Str × List Str)) (i : Option Nat) (s : Str → List (Str × U) → Ev → Gp → SR) : Sui := fun a cls d D σ H => ∃ c fs dd, cls = .ref (He.ga K c) ∧ d = some dd ∧ c ∈ t.map (·.1) ∧ tS ⟨K, zE Z (i.map fun i => (i, a)) fs dd⟩ W0 (s c fs) D σ H
def hdL (K : PySem.W.Frag) (Z : ZZ K) (t : List (Str × List Str)) : List Hd → List (Value × Option Nat × Sui)
  | [] => []
  | (x, i, s) :: r => (.ref (He.ga K x), i, tsS K Z t i s) :: hdL K Z t r
theorem hdsA_of {t : List (Str × List Str)} : ∀ {hds : List ExceptHandler} {l : List Hd}, FHs X Z t hds l → HdsA X hds (hdL X.K Z t l)
  | _, _, .nil => .nil
  | _, _, .cons hc hx hsu r => .cons hc (fun a oe cls d pn hz hf => ⟨fun pins s σ H D I h => by
      obtain ⟨c, fs, dd, rfl, rfl, hm, h⟩ := h
      exact (hsu a oe c fs dd pn hm hz hf).run pins s σ H D I h⟩) (hdsA_of r)
  | _, _, .as hc hx hi hln hsu r => .as hc hi hln (fun a oe cls d pn hz hf => ⟨fun pins s σ H D I h => by
      obtain ⟨c, fs, dd, rfl, rfl, hm, h⟩ := h
      exact (hsu a oe c fs dd pn hm hz hf).run pins s σ H D I h⟩) (hdsA_of r)
theorem sim_out {K : PySem.W.Frag} {Z : ZZ K} {er : Option (Nat × Addr)} {fs : List (Str × U)} {dd : Addr} {ρ : List Addr} {G : Gp} {H : Hp} (S : Sim ⟨K, zE Z er fs dd⟩ ρ G H) : Sim ⟨K, Z⟩ ρ G H := S.zc S.z.1
theorem req_out {K : PySem.W.Frag} {Z Z' : ZZ K} (hZ : Z.er = none) {ρ : List Addr} {H : Hp} {env : Ev} {σ : St} (e : REq ⟨K, Z'⟩ ρ H env σ) : REq ⟨K, Z⟩ ρ H env σ := ⟨e.1.zc, fun i a h => by have h : Z.er = some (i, a) := h; rw [hZ] at h; cases h⟩
theorem post_in {K : PySem.W.Frag} {Z : ZZ K} {er : Option (Nat × Addr)} {fs : List (Str × U)} {dd : Addr} (hZ : Z.er = none) {ρ : List Addr} {H : Hp} {r : SR} {D : Ends} {W : WX} (h : PostS ⟨K, Z⟩ ρ H (noExc r) D W) : PostS ⟨K, zE Z er fs dd⟩ ρ H r D W0 := by
  cases r with
  | nx e G => exact fun σ' ρ' H' p s S q => h σ' ρ' H' p s (sim_out S) (req_out hZ q)
  | brk e G => exact fun σ' ρ' H' p s S q => h σ' ρ' H' p s (sim_out S) (req_out hZ q)
  | ct e G => exact fun σ' ρ' H' p s S q => h σ' ρ' H' p s (sim_out S) (req_out hZ q)
  | ret u G => exact fun v ρ' H' p s S q => h v ρ' H' p s (sim_out S) q.zc
  | exc c fs e G => exact h.elim
  | bad => exact h
theorem post_in_as {K : PySem.W.Frag} {Z : ZZ K} {er : Option (Nat × Addr)} {fs : List (Str × U)} {dd : Addr} (hZ : Z.er = none) {ρ : List Addr} {H : Hp} {r : SR} {D : Ends} {W : WX} (i : Nat) (h : PostS ⟨K, Z⟩ ρ H (unE i r) D W) : PostS ⟨K, zE Z er fs dd⟩ ρ H r (D_un D i) W0 := by
  cases r with
  | nx e G => exact fun σ' ρ' H' p s S q => h _ ρ' H' p s (sim_out S) ((req_out hZ q).unset hZ i)
  | brk e G => exact fun σ' ρ' H' p s S q => h _ ρ' H' p s (sim_out S) ((req_out hZ q).unset hZ i)
  | ct e G => exact fun σ' ρ' H' p s S q => h _ ρ' H' p s (sim_out S) ((req_out hZ q).unset hZ i)
  | ret u G => exact fun v ρ' H' p s S q => h v ρ' H' p s (sim_out S) q.zc
  | exc c fs e G => exact h.elim
  | bad => exact h
theorem many_of {t : List (Str × List Str)} {c : Str} {as : List Str} {fs : List (Str × U)} {env : Ev} {G : Gp} {D : Ends} {ρ : List Addr} {H : Hp} {σ : St} {dd : Addr} {vfs : List (Str × V)} (hZ : Z.er = none) (hm : (c, as) ∈ t) (S : Sim (kz X Z) ρ G H) (e : REq (kz X Z) ρ H env σ) (ed : H dd = some (.xd vfs)) (rf : RFs (kz X Z) ρ H fs vfs) :
    ∀ {hds : List ExceptHandler} {l : List Hd}, FHs X Z t hds l → PostS (kz X Z) ρ H (goH as c fs env G l) D W → wManyA X.K W D (hdL X.K Z t l) (.ref (He.ga X.K c)) (some dd) σ H
  | _, _, .nil, h => h σ dd vfs ρ H pre_refl Stb.refl S e ed rf
  | _, _, .cons (x := x) (s := s) (l := l) hc hx hsu r, h => by
    have h : PostS (kz X Z) ρ H (if as.contains x = true then noExc (s c fs env G) else goH as c fs env G l) D W := h
    refine ⟨as.contains x, hx c as hm, fun hb a na => ?_, fun hb => ?_⟩
    · rw [if_pos hb] at h
      exact ⟨c, fs, dd, rfl, rfl, List.mem_map_of_mem (f := Prod.fst) hm, ρ, G, env, S.zc ⟨S.z, vfs, ed, rf⟩, ⟨e.1.zc, fun i a h => nomatch (show (none : Option (Nat × Addr)) = some (i, a) from h)⟩, post_in hZ h⟩
    · rw [if_neg (by rw [hb]; decide)] at h
      exact many_of hZ hm S e ed rf r h
  | _, _, .as (x := x) (i := i) (s := s) (l := l) hc hx hi hln hsu r, h => by
    have h : PostS (kz X Z) ρ H (if as.contains x = true then unE i (s c fs (env.set i none) G) else goH as c fs env G l) D W := h
    refine ⟨as.contains x, hx c as hm, fun hb a na => ?_, fun hb => ?_⟩
    · rw [if_pos hb] at h
      refine ⟨c, fs, dd, rfl, rfl, List.mem_map_of_mem (f := Prod.fst) hm, ρ, G, env.set i none, S.zc ⟨S.z, vfs, ed, rf⟩, ⟨(set_none_any _ e.1 i).zc, fun j b hj hn => ?_⟩, post_in_as hZ i h⟩
      have hj : some (i, a) = some (j, b) := hj
      cases hj
      have hl : i < env.length := by
        have := (List.getElem?_eq_some_iff.mp hn).1
        rwa [List.length_set] at this
      rw [List.getElem?_set_self (by rw [← e.1.len]; exact hl)]
    · rw [if_neg (by rw [hb]; decide)] at h
      exact many_of hZ hm S e ed rf r h
theorem mem_of_lookup' {t : List (Str × List Str)} {c : Str} {as : List Str} (h : t.lookup c = some as) : (c, as) ∈ t := PySem.mem_of_lookup h
theorem fstry {body : List Stmt} {h₀ : ExceptHandler} {hds : List ExceptHandler} {l : List Hd} {t : List (Str × List Str)} {g : Ev → Gp → SR} {pos : Pos} (hZ : Z.er = none) (hs : X.stack = X.env :: X.outer) (hf : X.env.frame = some X.env.locals) (hN : X.N.Nodup) (tk : Takes X W)
    (hb : ∀ (W' : WX) (pn : List (Addr × Obj)) (xe : Value → Shared → Prop), Takes (X.tr pn xe) W' → PassesOwn (model X.prog X.w) X.A X.env xe → FSs (X.tr pn xe) Z W' body g)
    (hh : FHs X Z t (h₀ :: hds) l) : FS X Z W (.Try body (h₀ :: hds) [] [] pos) (sTry t g l) := by
  refine PSimp (ps_try_A (tb := fun W' => tS (kz X Z) W' g) hs hf hN tk hb (hdsA_of hh)) fun D σ H ⟨ρ, G, env, S, e, h⟩ => ?_
  refine ⟨ρ, G, env, S, e, ?_⟩
  unfold sTry at h
  cases q : g env G with
  | nx e' G' => rw [q] at h; exact h
  | ret u G' => rw [q] at h; exact h
  | brk e' G' => rw [q] at h; exact h
  | ct e' G' => rw [q] at h; exact h
  | bad => rw [q] at h; exact h
  | exc c fs env' G' =>
    rw [q] at h
    simp only at h
    cases qt : t.lookup c with
    | none => rw [qt] at h; exact h.elim
    | some as =>
      rw [qt] at h
      intro σ' d vfs ρ' H' p s S' e' ed rf
      exact many_of hZ (mem_of_lookup' qt) S' e' ed rf hh (h.lift p s)
end
/-! ### the handled error: its fields, isinstance -/
def eXf (i : Nat) (fs : List (Str × U)) (f : Str) : Ev → Gp → R U := fun env G => match env[i]? with
  | some none => match fs.lookup f with
    | some u => .ok u G
    | none => .bad
  | _ => .bad
def eXis (i : Nat) (b : Bool) : Ev → Gp → R U := fun env G => match env[i]? with
  | some none => .ok (.bl b) G
  | _ => .bad
theorem lookup_rel {K : KZ} {ρ : List Addr} {H : Hp} {f : Str} {u : U} : ∀ {fs : List (Str × U)} {vfs : List (Str × V)}, RFs K ρ H fs vfs → fs.lookup f = some u → ∃ v, vfs.lookup f = some v ∧ RU K ρ H u v
  | [], _, _, h => by simp at h
  | (g, x) :: fs, [], r, h => by have := r.1; simp at this
  | (g, x) :: fs, (g', y) :: vfs, r, h => by
    obtain ⟨r1, r2⟩ := r
    simp only [List.map_cons, List.cons.injEq] at r1 r2
    obtain ⟨rfl, r1⟩ := r1
    cases r2 with
    | cons hx ht =>
      rw [List.lookup_cons] at h ⊢
      by_cases hg : (f == g) = true
      · rw [hg] at h ⊢
        cases h
        exact ⟨y, rfl, hx⟩
      · have hg : (f == g) = false := by simpa using hg
        rw [hg] at h ⊢
        exact lookup_rel (fs := fs) (vfs := vfs) ⟨r1, ht⟩ h
/-- what the written part says of a class of errors, for its fields and isinstance -/
structure XiK (K : PySem.W.Frag) (C : Addr) : Prop where
  xf : XfC K C
  ha : PySem.W.findIn K (.ref C) "__class__" = some (some (.builtin "object.__class__"))
  hn : PySem.W.specialIn K (.builtin "object.__class__") "__get__" = some (some (.builtin "getset_descriptor.__get__"))
  ht : PySem.W.takesIn K (.builtin "object.__class__") = some true
  hm : PySem.W.mroIn K C (.type "object") = some true
def xiB (K : PySem.W.Frag) (C : Addr) : Bool := xfB K C && (decide (PySem.W.findIn K (.ref C) "__class__" = some (some (.builtin "object.__class__"))) && (decide (PySem.W.specialIn K (.builtin "object.__class__") "__get__" = some (some (.builtin "getset_descriptor.__get__"))) &&
  (decide (PySem.W.takesIn K (.builtin "object.__class__") = some true) && decide (PySem.W.mroIn K C (.type "object") = some true))))
theorem xiB_ok {K : PySem.W.Frag} {C : Addr} (h : xiB K C = true) : XiK K C := by
  obtain ⟨h1, h⟩ := Bool.and_eq_true_iff.mp h
  obtain ⟨h2, h⟩ := Bool.and_eq_true_iff.mp h
  obtain ⟨h3, h⟩ := Bool.and_eq_true_iff.mp h
  obtain ⟨h4, h5⟩ := Bool.and_eq_true_iff.mp h
  exact ⟨xfB_ok h1, of_decide_eq_true h2, of_decide_eq_true h3, of_decide_eq_true h4, of_decide_eq_true h5⟩
section
variable {X : Cx} {Z : ZZ X.K} {W : WX} {a : Addr} {oe : Obj} {c : Str} {fs : List (Str × U)} {dd : Addr} {pn : List (Addr × Obj)} {i : Nat} {n f : Str} {p pos : Pos}
theorem tErr {Z : ZZ X.K} {W : WX} {σ : St} {H : Hp} {ρ : List Addr} {env : Ev} (e : REq (kz X (zE Z (some (i, a)) fs dd)) ρ H env σ) (hq : env[i]? = some none) : σ[i]? = some (some (.ref a)) := e.2 i a rfl hq
theorem fxf (T : XfC X.K (He.ga X.K c)) (hno : PySem.W.findIn X.K (.ref (He.ga X.K c)) f = some none) (hz : Zc (.ref (He.ga X.K c)) (some dd) oe) (hf : ∃ vs, oe.data = .fields vs)
    (hN : X.N[i]? = some n := by rfl) (hv : Vis X.env.scope n := by first | exact Or.inl rfl | exact Or.inr (Or.inl rfl) | exact Or.inr (Or.inr rfl)) (hd : (n == ("__debug__" : Str)) = false := by decide) (hcd : (n == ("__classdict__" : Str)) = false := by decide)
    (hb : attributeBase (.Name n p) f X.env (eval (.Name n p) X.env) = eval (.Name n p) X.env := by rfl) : FE (SuX X a oe pn) (zE Z (some (i, a)) fs dd) W (.Attribute (.Name n p) f pos) (eXf i fs f) := by
  refine PEimp (pe_xf (te := tVar i) T hno hz hf (pe_var (X := SuX X a oe pn) hN hv hd hcd) hb) fun σ H Q ⟨ρ, G, env, S, e, h⟩ => ?_
  unfold eXf at h
  cases q : env[i]? with
  | none => rw [q] at h; exact h.elim
  | some o =>
    cases o with
    | some _ => rw [q] at h; exact h.elim
    | none =>
      rw [q] at h
      simp only at h
      cases q2 : fs.lookup f with
      | none => rw [q2] at h; exact h.elim
      | some u =>
        rw [q2] at h
        obtain ⟨_, vfs, ed, rf⟩ := S.z
        obtain ⟨v, ev, rv⟩ := lookup_rel rf q2
        exact ⟨.ref a, e.2 i a rfl q, rfl, rfl, dd, vfs, v, rfl, ed, ev, h.end_ S rv.zc⟩
/-- isinstance of the handled error -/
def rXis (K : PySem.W.Frag) (a C dd : Addr) : List V → Hp → VK → Prop := fun xs H Q => (∃ vfs, H dd = some (.xd vfs)) ∧
  ((∃ (c : V) (cv : Value) (b : Bool), xs = [.ref a, c] ∧ ClsV c cv ∧ PySem.W.kitOne K (.ref C) cv = some b ∧ Q (.bl b) H) ∨
    (∃ (tp : Addr) (cs : List V) (us : List Value) (b : Bool), xs = [.ref a, .ref tp] ∧ H tp = some (.tup cs) ∧ Paired ClsV cs us ∧ PySem.W.kitAny K (.ref C) us = some b ∧ Q (.bl b) H))
theorem call_xis {C : Addr} (T : XiK X.K C) (hz : Zc (.ref C) (some dd) oe) (hf : ∃ vs, oe.data = .fields vs) : CallR (SuX X a oe pn) (.builtin "isinstance") (rXis X.K a C dd) := by
  intro pins s σ H xs us Q I r h
  obtain ⟨⟨vfs, ed⟩, h⟩ := h
  obtain ⟨hget, _⟩ := I.pin (a, oe) (List.mem_append.mpr (.inl List.mem_cons_self))
  obtain ⟨vs, hv⟩ := hf
  obtain ⟨mA, hns, _⟩ := (show ObjOk X.prog X.w H s.heap dd (.xd vfs) from I.hok dd _ ed)
  obtain ⟨od, ho, hl⟩ := lookIn_ns hns
  have J : PySem.W.InstAt s.heap a oe C (some od) := ⟨hget, hz.1, by unfold PySem.W.notCls; rw [hv] <;> rfl, by rw [hz.2]; exact ho⟩
  have hcl : (PySem.W.clsIn X.K C).isSome = true := by obtain ⟨cd, hc, _⟩ := PySem.W.any_some T.xf.hdC; rw [hc]; rfl
  have kit : PySem.W.KitX X.K (.ref a) (.ref C) (fun h => PySem.W.InstAt h a oe C (some od)) := PySem.W.kitx_exc hcl T.xf.ga T.xf.gg T.xf.exC T.ha T.hn T.ht T.hm
  rcases h with ⟨c, cv, b, rfl, hcv, e, q⟩ | ⟨tp, cs, ws, b, rfl, hT, k, e, q⟩
  · obtain ⟨u1, u2, rfl, r1, r2⟩ := vals2 r
    cases (show u1 = Value.ref a from r1)
    have ec := hcv.eq r2
    subst ec
    exact PySem.W.kia_one kit I.kIn J e (fun z => nomatch z) fun tk => ⟨.bl b, H, I.tok tk, rfl, q⟩
  · obtain ⟨u1, u2, rfl, r1, r2⟩ := vals2 r
    cases (show u1 = Value.ref a from r1)
    cases (show u2 = Value.ref tp from r2)
    obtain ⟨_, its, rv, o, h1, h2, n, h3⟩ := (show ObjOk X.prog X.w H s.heap tp (.tup cs) from I.hok tp _ hT)
    have e3 := ClsV.all k rv
    subst e3
    obtain ⟨oc, od', dt, sl⟩ := o
    simp only at h2 h3
    subst h2 h3
    exact PySem.W.kia_tup kit I.kIn J h1 e (fun z => nomatch z) fun tk => ⟨.bl b, H, I.tok tk, rfl, q⟩
/-- a row of classes, written -/
def tCs (vs : List V) : TA := fun _ H Q => Q vs H
theorem pcs_nil {X : Cx} : PA X [] (tCs []) := pa_nil
theorem pcs_cons {X : Cx} {e : Expr} {es : List Expr} {v : V} {vs : List V} (h : PE X e (tC v)) (t : PA X es (tCs vs)) (hs : starEach (e :: es) X.env = (false, eval e X.env) :: starEach es X.env := by rfl) : PA X (e :: es) (tCs (v :: vs)) := pa_cons h t hs
theorem fxis1 {t : Expr} {cv : V} {cval : Value} {b : Bool} {p2 : Pos} (T : XiK X.K (He.ga X.K c)) (hz : Zc (.ref (He.ga X.K c)) (some dd) oe) (hf : ∃ vs, oe.data = .fields vs) (hm : X.mg "isinstance" = none) (ht : PE (SuX X a oe pn) t (tC cv)) (hcv : ClsV cv cval) (hb : PySem.W.kitOne X.K (.ref (He.ga X.K c)) cval = some b)
    (hg : Gl X "isinstance" := by rfl) (hN : X.N[i]? = some n := by rfl) (hv : Vis X.env.scope n := by first | exact Or.inl rfl | exact Or.inr (Or.inl rfl) | exact Or.inr (Or.inr rfl)) (hd : (n == ("__debug__" : Str)) = false := by decide) (hcd : (n == ("__classdict__" : Str)) = false := by decide)
    (he : starEach [.Name n p, t] X.env = (false, eval (.Name n p) X.env) :: starEach [t] X.env := by rfl) (he2 : starEach [t] X.env = (false, eval t X.env) :: starEach [] X.env := by rfl) (hpl : (backTo pos (starEach [t] X.env)).any (·.1) = false := by rfl) :
    FE (SuX X a oe pn) (zE Z (some (i, a)) fs dd) W (.Call (.Name "isinstance" p2) [.Name n p, t] [] pos) (eXis i b) := by
  refine PEimp (pe_callB (t := tCons (tVar i) (tCs [cv])) (call_xis T hz hf) hg hm (by decide +kernel) (pa_cons (pe_var (X := SuX X a oe pn) hN hv hd hcd) (pcs_cons ht pcs_nil he2) he) (by decide) (by decide) he hpl) fun σ H Q ⟨ρ, G, env, S, e, h⟩ => ?_
  unfold eXis at h
  cases q : env[i]? with
  | none => rw [q] at h; exact h.elim
  | some o =>
    cases o with
    | some _ => rw [q] at h; exact h.elim
    | none =>
      rw [q] at h
      obtain ⟨_, vfs, ed, rf⟩ := S.z
      exact ⟨.ref a, e.2 i a rfl q, ⟨vfs, ed⟩, .inl ⟨cv, cval, b, rfl, hcv, hb, h.end_ S (.bl _)⟩⟩
theorem fxisT {ts : List Expr} {cvs : List V} {cvals : List Value} {b : Bool} {p2 p3 : Pos} {k3 : Nat} (T : XiK X.K (He.ga X.K c)) (hz : Zc (.ref (He.ga X.K c)) (some dd) oe) (hf : ∃ vs, oe.data = .fields vs) (hm : X.mg "isinstance" = none) (ht : PA (SuX X a oe pn) ts (tCs cvs)) (hcv : Paired ClsV cvs cvals) (hb : PySem.W.kitAny X.K (.ref (He.ga X.K c)) cvals = some b) (hl : cvs.length ≤ sizeLine)
    (hg : Gl X "isinstance" := by rfl) (hN : X.N[i]? = some n := by rfl) (hv : Vis X.env.scope n := by first | exact Or.inl rfl | exact Or.inr (Or.inl rfl) | exact Or.inr (Or.inr rfl)) (hd : (n == ("__debug__" : Str)) = false := by decide) (hcd : (n == ("__classdict__" : Str)) = false := by decide)
    (he : starEach [.Name n p, .Tuple ts k3 p3] X.env = (false, eval (.Name n p) X.env) :: starEach [.Tuple ts k3 p3] X.env := by rfl) (he2 : starEach [.Tuple ts k3 p3] X.env = (false, eval (.Tuple ts k3 p3) X.env) :: starEach [] X.env := by rfl) (hpl : (backTo pos (starEach [.Tuple ts k3 p3] X.env)).any (·.1) = false := by rfl) :
    FE (SuX X a oe pn) (zE Z (some (i, a)) fs dd) W (.Call (.Name "isinstance" p2) [.Name n p, .Tuple ts k3 p3] [] pos) (eXis i b) := by
  refine PEimp (pe_callB (t := tCons (tVar i) (tCons (tTup (tCs cvs)) tNil)) (call_xis T hz hf) hg hm (by decide +kernel) (pa_cons (pe_var (X := SuX X a oe pn) hN hv hd hcd) (pa_cons (pe_tup ht) pa_nil he2) he) (by decide) (by decide) he hpl) fun σ H Q ⟨ρ, G, env, S, e, h⟩ => ?_
  unfold eXis at h
  cases q : env[i]? with
  | none => rw [q] at h; exact h.elim
  | some o =>
    cases o with
    | some _ => rw [q] at h; exact h.elim
    | none =>
      rw [q] at h
      obtain ⟨_, vfs, ed, rf⟩ := S.z
      refine ⟨.ref a, e.2 i a rfl q, hl, fun tp hn => ⟨⟨vfs, by rw [upd_ne (ne_of_none ed hn)]; exact ed⟩, .inr ⟨tp, cvs, cvals, b, rfl, upd_same, hcv, hb, ?_⟩⟩⟩
      have st : Stb (kz X (zE Z (some (i, a)) fs dd)) H (upd H tp (.tup cvs)) := stb_new hn
      exact Post.end_ (Post.lift h pre_refl st) (S.tup hn) (.bl _)
end
/-! ### isinstance of values -/
def tyN (G : Gp) (u : U) : Option String := match u with
  | .non => some "NoneType"
  | .bl _ => some "bool"
  | .int _ => some "int"
  | .str _ => some "str"
  | .tup _ => some "tuple"
  | .rl _ => some "list"
  | .ref l => match G[l]? with
    | some (.lst _) => some "list"
    | _ => none
def eIs (tbl : List (String × Bool)) (f : Ev → Gp → R U) : Ev → Gp → R U := fun env G => (f env G).bind fun u G1 => match tyN G1 u with
  | some n => match tbl.lookup n with
    | some b => .ok (.bl b) G1
    | none => .bad
  | none => .bad
theorem mem_of_lookupS {n : String} {b : Bool} : ∀ {tbl : List (String × Bool)}, tbl.lookup n = some b → (n, b) ∈ tbl
  | [], h => by simp at h
  | (m, c) :: r, h => by
    rw [List.lookup_cons] at h
    by_cases hm : (n == m) = true
    · rw [hm] at h
      cases h
      rw [eq_of_beq hm]
      exact List.mem_cons_self
    · have hm : (n == m) = false := by simpa using hm
      rw [hm] at h
      exact List.mem_cons_of_mem _ (mem_of_lookupS h)
theorem tyN_ok {K : KZ} {ρ : List Addr} {G : Gp} {H : Hp} {u : U} {v : V} {n : String} (S : Sim K ρ G H) (r : RU K ρ H u v) (h : tyN G u = some n) : TyX K.K H v (.type n) := by
  cases r with
  | non => cases h; exact .base .non
  | bl b => cases h; exact .base (.bl b)
  | int i => cases h; exact .base (.int i)
  | str x => cases h; exact .base (.str x)
  | tup ht _ =>
    cases h
    rcases ht with ht | ⟨o, its, n, hk, hc, _⟩
    · exact .base (.tup ht)
    · exact .kTuple hk hc
  | rl ht _ =>
    cases h
    rcases ht with ⟨o, ht⟩ | ⟨o, its, n, hk, hc, _⟩
    · exact .base (.frz ht)
    · exact .kList hk hc
  | @ref l a ha =>
    unfold tyN at h
    simp only at h
    cases q : G[l]? with
    | none => rw [q] at h; exact nomatch h
    | some o =>
      rw [q] at h
      cases o with
      | lst xs =>
        cases h
        obtain ⟨vs, e, _⟩ := S.list ha q
        exact .base (.lst e)
      | _ => exact nomatch h
section
variable {X : Cx} {Z : ZZ X.K} {W : WX} {e t : Expr} {f : Ev → Gp → R U} {p2 p3 pos : Pos} {tbl : List (String × Bool)}
theorem fis1 {cv : V} {cval : Value} (hm : X.mg "isinstance" = none) (he : FE X Z W e f) (ht : PE X t (tC cv)) (hcv : ClsV cv cval) (hb : ∀ n b, (n, b) ∈ tbl → PySem.W.kitOne X.K (.type n) cval = some b)
    (hg : Gl X "isinstance" := by rfl) (hs : starEach [e, t] X.env = (false, eval e X.env) :: starEach [t] X.env := by rfl) (hs2 : starEach [t] X.env = (false, eval t X.env) :: starEach [] X.env := by rfl) (hpl : (backTo pos (starEach [t] X.env)).any (·.1) = false := by rfl) :
    FE X Z W (.Call (.Name "isinstance" p2) [e, t] [] pos) (eIs tbl f) := by
  refine PEimp (pe_callB (t := tCons (tF (kz X Z) W f) (tCs [cv])) call_isi hg hm (by decide +kernel) (pa_cons he (pcs_cons ht pcs_nil hs2) hs) (by decide) (by decide) hs hpl) fun σ H Q ⟨ρ, G, env, S, e, h⟩ => ?_
  refine tG_mono (step S e h) fun v H1 ⟨ρ1, G1, x, p1, s1, S1, e1, r1, h1⟩ => ?_
  cases q : tyN G1 x with
  | none => rw [q] at h1; exact h1.elim
  | some n =>
    rw [q] at h1
    simp only at h1
    cases q2 : tbl.lookup n with
    | none => rw [q2] at h1; exact h1.elim
    | some b => rw [q2] at h1; exact ⟨v, cv, .type n, cval, b, rfl, hcv, tyN_ok S1 r1 q, hb n b (mem_of_lookupS q2), h1.end_ S1 (.bl _)⟩
theorem fisT {ts : List Expr} {cvs : List V} {cvals : List Value} {k3 : Nat} (hm : X.mg "isinstance" = none) (he : FE X Z W e f) (ht : PA X ts (tCs cvs)) (hcv : Paired ClsV cvs cvals) (hb : ∀ n b, (n, b) ∈ tbl → PySem.W.kitAny X.K (.type n) cvals = some b) (hl : cvs.length ≤ sizeLine)
    (hg : Gl X "isinstance" := by rfl) (hs : starEach [e, .Tuple ts k3 p3] X.env = (false, eval e X.env) :: starEach [.Tuple ts k3 p3] X.env := by rfl) (hs2 : starEach [.Tuple ts k3 p3] X.env = (false, eval (.Tuple ts k3 p3) X.env) :: starEach [] X.env := by rfl) (hpl : (backTo pos (starEach [.Tuple ts k3 p3] X.env)).any (·.1) = false := by rfl) :
    FE X Z W (.Call (.Name "isinstance" p2) [e, .Tuple ts k3 p3] [] pos) (eIs tbl f) := by
  refine PEimp (pe_callB (t := tCons (tF (kz X Z) W f) (tCons (tTup (tCs cvs)) tNil)) call_isiT hg hm (by decide +kernel) (pa_cons he (pa_cons (pe_tup ht) pa_nil hs2) hs) (by decide) (by decide) hs hpl) fun σ H Q ⟨ρ, G, env, S, e, h⟩ => ?_
  refine tG_mono (step S e h) fun v H1 ⟨ρ1, G1, x, p1, s1, S1, e1, r1, h1⟩ => ?_
  cases q : tyN G1 x with
  | none => rw [q] at h1; exact h1.elim
  | some n =>
    rw [q] at h1
    simp only at h1
    cases q2 : tbl.lookup n with
    | none => rw [q2] at h1; exact h1.elim
    | some b =>
      rw [q2] at h1
      refine ⟨hl, fun tp hn => ?_⟩
      have st : Stb (kz X Z) H1 (upd H1 tp (.tup cvs)) := stb_new hn
      exact ⟨v, tp, cvs, .type n, cvals, b, rfl, upd_same, hcv, tyN_ok (S1.tup hn) (r1.mono pre_refl st) q, hb n b (mem_of_lookupS q2), Post.end_ (Post.lift h1 pre_refl st) (S1.tup hn) (.bl _)⟩
end
/-! the usual classes -/
def tyAll (p : String → Bool) : List (String × Bool) := ["NoneType", "bool", "int", "str", "tuple", "list", "dict"].map fun n => (n, p n)
def tbInt := tyAll fun n => n == "int" || n == "bool"
def tbBool := tyAll fun n => n == "bool"
def tbStr := tyAll fun n => n == "str"
def tbTup := tyAll fun n => n == "tuple"
def tbLst := tyAll fun n => n == "list"
def tbSeq := tyAll fun n => n == "tuple" || n == "list"
section
variable {K : PySem.W.Frag}
theorem kOne {c : String} {tbl : List (String × Bool)} (h : tbl.all (fun p => kitB p.1 c == some p.2) = true) : ∀ n b, (n, b) ∈ tbl → PySem.W.kitOne K (.type n) (.type c) = some b := fun n b hm => kit_ty (beq_iff_eq.mp (List.all_eq_true.mp h (n, b) hm))
def kitBs (a : String) : List String → Option Bool
  | [] => some false
  | c :: r => match kitB a c with
    | some true => some true
    | some false => kitBs a r
    | none => none
theorem kitBs_ok {a : String} : ∀ {cs : List String} {b : Bool}, kitBs a cs = some b → PySem.W.kitAny K (.type a) (cs.map Value.type) = some b
  | [], b, h => h
  | c :: r, b, h => by
    unfold kitBs at h
    rw [List.map_cons]
    unfold PySem.W.kitAny
    cases q : kitB a c with
    | none => rw [q] at h; exact nomatch h
    | some k =>
      rw [q] at h
      rw [kit_ty (K := K) q]
      cases k with
      | true => exact h
      | false => exact kitBs_ok h
theorem kAny {cs : List String} {tbl : List (String × Bool)} (h : tbl.all (fun p => kitBs p.1 cs == some p.2) = true) : ∀ n b, (n, b) ∈ tbl → PySem.W.kitAny K (.type n) (cs.map Value.type) = some b := fun n b hm => kitBs_ok (beq_iff_eq.mp (List.all_eq_true.mp h (n, b) hm))
theorem kInt : ∀ n b, (n, b) ∈ tbInt → PySem.W.kitOne K (.type n) (.type "int") = some b := kOne (by decide +kernel)
theorem kBool : ∀ n b, (n, b) ∈ tbBool → PySem.W.kitOne K (.type n) (.type "bool") = some b := kOne (by decide +kernel)
theorem kStr : ∀ n b, (n, b) ∈ tbStr → PySem.W.kitOne K (.type n) (.type "str") = some b := kOne (by decide +kernel)
theorem kTup : ∀ n b, (n, b) ∈ tbTup → PySem.W.kitOne K (.type n) (.type "tuple") = some b := kOne (by decide +kernel)
theorem kLst : ∀ n b, (n, b) ∈ tbLst → PySem.W.kitOne K (.type n) (.type "list") = some b := kOne (by decide +kernel)
theorem kTL : ∀ n b, (n, b) ∈ tbSeq → PySem.W.kitAny K (.type n) (["tuple", "list"].map Value.type) = some b := kAny (by decide +kernel)
theorem kLT : ∀ n b, (n, b) ∈ tbSeq → PySem.W.kitAny K (.type n) (["list", "tuple"].map Value.type) = some b := kAny (by decide +kernel)
end
section
variable {X : Cx} {Z : ZZ X.K} {W : WX} {e : Expr} {f : Ev → Gp → R U} {p2 p3 p4 p5 pos : Pos}
theorem clsTy {x : Str} {T : String} (hm : X.mg x = none) (hv : bootBuiltins x = some (.type T)) (hg : Gl X x) (hn : x ≠ "__name__") (hd : (x == ("__debug__" : Str)) = false) : PE X (.Name x p2) (tC (.ty T)) := pe_bltn hg hm hv rfl hn hd
theorem fisInt (hm : X.mg "isinstance" = none) (hi : X.mg "int" = none) (he : FE X Z W e f) (hg : Gl X "isinstance" := by rfl) (hgi : Gl X "int" := by rfl) (hs : starEach [e, .Name "int" p3] X.env = (false, eval e X.env) :: starEach [.Name "int" p3] X.env := by rfl) (hs2 : starEach [.Name "int" p3] X.env = (false, eval (.Name "int" p3) X.env) :: starEach [] X.env := by rfl) (hpl : (backTo pos (starEach [.Name "int" p3] X.env)).any (·.1) = false := by rfl) :
    FE X Z W (.Call (.Name "isinstance" p2) [e, .Name "int" p3] [] pos) (eIs tbInt f) := fis1 hm he (clsTy hi (by decide +kernel) hgi (by decide) (by decide)) (.ty _) kInt hg hs hs2 hpl
theorem fisBool (hm : X.mg "isinstance" = none) (hi : X.mg "bool" = none) (he : FE X Z W e f) (hg : Gl X "isinstance" := by rfl) (hgi : Gl X "bool" := by rfl) (hs : starEach [e, .Name "bool" p3] X.env = (false, eval e X.env) :: starEach [.Name "bool" p3] X.env := by rfl) (hs2 : starEach [.Name "bool" p3] X.env = (false, eval (.Name "bool" p3) X.env) :: starEach [] X.env := by rfl) (hpl : (backTo pos (starEach [.Name "bool" p3] X.env)).any (·.1) = false := by rfl) :
    FE X Z W (.Call (.Name "isinstance" p2) [e, .Name "bool" p3] [] pos) (eIs tbBool f) := fis1 hm he (clsTy hi (by decide +kernel) hgi (by decide) (by decide)) (.ty _) kBool hg hs hs2 hpl
theorem fisStr (hm : X.mg "isinstance" = none) (hi : X.mg "str" = none) (he : FE X Z W e f) (hg : Gl X "isinstance" := by rfl) (hgi : Gl X "str" := by rfl) (hs : starEach [e, .Name "str" p3] X.env = (false, eval e X.env) :: starEach [.Name "str" p3] X.env := by rfl) (hs2 : starEach [.Name "str" p3] X.env = (false, eval (.Name "str" p3) X.env) :: starEach [] X.env := by rfl) (hpl : (backTo pos (starEach [.Name "str" p3] X.env)).any (·.1) = false := by rfl) :
    FE X Z W (.Call (.Name "isinstance" p2) [e, .Name "str" p3] [] pos) (eIs tbStr f) := fis1 hm he (clsTy hi (by decide +kernel) hgi (by decide) (by decide)) (.ty _) kStr hg hs hs2 hpl
theorem fisTuple (hm : X.mg "isinstance" = none) (hi : X.mg "tuple" = none) (he : FE X Z W e f) (hg : Gl X "isinstance" := by rfl) (hgi : Gl X "tuple" := by rfl) (hs : starEach [e, .Name "tuple" p3] X.env = (false, eval e X.env) :: starEach [.Name "tuple" p3] X.env := by rfl) (hs2 : starEach [.Name "tuple" p3] X.env = (false, eval (.Name "tuple" p3) X.env) :: starEach [] X.env := by rfl) (hpl : (backTo pos (starEach [.Name "tuple" p3] X.env)).any (·.1) = false := by rfl) :
    FE X Z W (.Call (.Name "isinstance" p2) [e, .Name "tuple" p3] [] pos) (eIs tbTup f) := fis1 hm he (clsTy hi (by decide +kernel) hgi (by decide) (by decide)) (.ty _) kTup hg hs hs2 hpl
theorem fisList (hm : X.mg "isinstance" = none) (hi : X.mg "list" = none) (he : FE X Z W e f) (hg : Gl X "isinstance" := by rfl) (hgi : Gl X "list" := by rfl) (hs : starEach [e, .Name "list" p3] X.env = (false, eval e X.env) :: starEach [.Name "list" p3] X.env := by rfl) (hs2 : starEach [.Name "list" p3] X.env = (false, eval (.Name "list" p3) X.env) :: starEach [] X.env := by rfl) (hpl : (backTo pos (starEach [.Name "list" p3] X.env)).any (·.1) = false := by rfl) :
    FE X Z W (.Call (.Name "isinstance" p2) [e, .Name "list" p3] [] pos) (eIs tbLst f) := fis1 hm he (clsTy hi (by decide +kernel) hgi (by decide) (by decide)) (.ty _) kLst hg hs hs2 hpl
theorem fisTL {k3 : Nat} (hm : X.mg "isinstance" = none) (hi : X.mg "tuple" = none) (hl : X.mg "list" = none) (he : FE X Z W e f) (hg : Gl X "isinstance" := by rfl) (hgi : Gl X "tuple" := by rfl) (hgl : Gl X "list" := by rfl)
    (hs : starEach [e, .Tuple [.Name "tuple" p3, .Name "list" p4] k3 p5] X.env = (false, eval e X.env) :: starEach [.Tuple [.Name "tuple" p3, .Name "list" p4] k3 p5] X.env := by rfl) (hs2 : starEach [.Tuple [.Name "tuple" p3, .Name "list" p4] k3 p5] X.env = (false, eval (.Tuple [.Name "tuple" p3, .Name "list" p4] k3 p5) X.env) :: starEach [] X.env := by rfl)
    (hs3 : starEach [.Name "tuple" p3, .Name "list" p4] X.env = (false, eval (.Name "tuple" p3) X.env) :: starEach [.Name "list" p4] X.env := by rfl) (hs4 : starEach [.Name "list" p4] X.env = (false, eval (.Name "list" p4) X.env) :: starEach [] X.env := by rfl) (hpl : (backTo pos (starEach [.Tuple [.Name "tuple" p3, .Name "list" p4] k3 p5] X.env)).any (·.1) = false := by rfl) :
    FE X Z W (.Call (.Name "isinstance" p2) [e, .Tuple [.Name "tuple" p3, .Name "list" p4] k3 p5] [] pos) (eIs tbSeq f) :=
  fisT hm he (pcs_cons (clsTy hi (by decide +kernel) hgi (by decide) (by decide)) (pcs_cons (clsTy hl (by decide +kernel) hgl (by decide) (by decide)) pcs_nil hs4) hs3) (.cons (.ty _) (.cons (.ty _) .nil)) kTL (by show 2 ≤ sizeLine; rw [line_eq]; decide) hg hs hs2 hpl
end
end FL

set_option Elab.async false
set_option linter.all false
set_option maxRecDepth 100000
set_option maxHeartbeats 4000000
/-! enumerate(tuple): the tuple's twin of the layer's enumerate(list) -/
namespace PySem
set_option maxHeartbeats 4000000 in
theorem meets_enumerate_newT (l : Addr) (items : Array Value) (n : Nat) (dct : Option Addr) (sl : Array (Option Value)) :
    Meets (Builtin.«enumerate.__new__» ⟨[.type "enumerate", .ref l], []⟩) (fun _ R s => s.heap.get? l = some { cls := .type "tuple", dict := dct, data := .seq items n, slots := sl } ∧
      R (.ok (.ret (.ref (s.heap.push { cls := .type "tuple_iterator", data := .fields #[.ref l, .int 0 0] }).objs.size)))
        { s with heap := (s.heap.push { cls := .type "tuple_iterator", data := .fields #[.ref l, .int 0 0] }).push { cls := .type "enumerate", data := .fields #[.none, .bool false, .ref s.heap.objs.size, rawInt 0, .none, .none] } }) :=
  .of_wp fun prog w A R s h => by
    obtain ⟨hp, g, d, tk, os⟩ := s; obtain ⟨hl, h⟩ := h
    have hsub := sub_enumerate
    have hL : Heap.IsTuple (Shared.heap ⟨hp, g, d, tk, os⟩) l items := ⟨_, hl, rfl, n, rfl⟩
    wp_walk using wpAny_loadPart' hl
    refine wpAny_stack_any fun st => wpAny_pure ?_
    split
    · rename_i c _ _ _ _ _
      cases (c == Value.type "enumerate")
      · wp_walk using wpAny_loadPart' hl, wpAny_pyIter_tuple hL
        exact ⟨_, rfl, h⟩
      · wp_walk using wpAny_loadPart' hl, wpAny_pyIter_tuple hL
        exact ⟨_, rfl, h⟩
    · wp_walk using wpAny_loadPart' hl, wpAny_pyIter_tuple hL
      exact ⟨_, rfl, h⟩
section
variable {prog : Program} {w : World} {A : Around} {E : Value → Shared → Prop} {s : Shared}
theorem call_enumerate_tuple {l : Addr} {items : Array Value} {Q : Value → Shared → Prop} (hL : s.heap.IsTuple l items)
    (h : ∀ h', IsEnum h' (s.heap.objs.size + 1) s.heap.objs.size 0 .none → h'.IsTupleIter s.heap.objs.size l 0 → h'.objs.size = s.heap.objs.size + 2 →
      (∀ b o, s.heap.get? b = some o → h'.get? b = some o) → Q (.ref (s.heap.objs.size + 1)) { s with heap := h' }) :
    wpAny (model prog w) A (call (.type "enumerate") [.ref l]) Q E s := by
  obtain ⟨⟨c, dct, dt, sl⟩, hl, hc, n, hd⟩ := hL
  replace hc : c = .type "tuple" := hc
  replace hd : dt = .seq items n := hd
  subst hc hd
  refine callType_new F.called_enumerate (by decide) (F.typeCall_enumerate_1 _) (F.newCall_enumerate_1 _) (fun obj => F.args_object_init_2 obj _) F.entry_enumerate_new
    (meets_enumerate_newT l items n dct sl) ⟨hl, ?_⟩
  have hz : (s.heap.push { cls := .type "tuple_iterator", data := .fields #[.ref l, .int 0 0] }).objs.size = s.heap.objs.size + 1 := Heap.size_push ..
  show _ ∧ _
  rw [hz]
  have he : IsEnum ((s.heap.push { cls := .type "tuple_iterator", data := .fields #[.ref l, .int 0 0] }).push
      { cls := .type "enumerate", data := .fields #[.none, .bool false, .ref s.heap.objs.size, rawInt 0, .none, .none] }) (s.heap.objs.size + 1) s.heap.objs.size 0 .none := by
    have := Heap.get?_push_size (s.heap.push { cls := .type "tuple_iterator", data := .fields #[.ref l, .int 0 0] })
      (o := { cls := .type "enumerate", data := .fields #[.none, .bool false, .ref s.heap.objs.size, rawInt 0, .none, .none] }) rfl
    rw [hz] at this
    exact this
  refine ⟨⟨_, he, rfl⟩, h _ he ⟨_, Heap.get?_push_of_some _ (Heap.get?_push_size _ rfl), rfl, rfl⟩ (by rw [Heap.size_push, hz]) fun b o e => Heap.get?_push_of_some _ (Heap.get?_push_of_some _ e)⟩
theorem enumT_end {e it l : Addr} {i : Nat} {items : Array Value} {old : Value} {Q : Option Value → Shared → Prop} (hh : A.handled = none)
    (he : IsEnum s.heap e it i old) (hit : s.heap.IsTupleIter it l i) (hl : s.heap.IsTuple l items) (hx : items[i]? = none)
    (hQ : ∀ h', Heap.ExtBut it s.heap h' → Q none { s with heap := h' }) : wpAny (model prog w) A (pyNext (.ref e)) Q E s := by
  have hT : s.TypeIs (.ref e) "enumerate" := ⟨_, he, rfl⟩
  unfold pyNext
  refine wpAny_bind (wpAny_attempt (wpAny_callSpecial?_slot (name := Str.ofString "__next__") hT F.slot_enumerate_next
    (wpAny_call_entry F.slot_enumerate_next hT F.entry_enumerate_next ?_ (F.args_enumerate_next_1 _))))
  show wpAny _ _ (field (.ref e) 2 >>= _) _ _ _
  refine wpAny_bind (wpAny_field he rfl (x := .ref it) rfl ?_)
  refine wpAny_bind (wpAny_nextOf_tuple_end hh hit hl hx fun h' x he' hx' => ?_)
  obtain ⟨o, ho, hc⟩ := hx'
  refine wpAny_bind (wpAny_isInstance (T := "StopIteration") (b := true) ⟨o, ho, hc⟩ isSubtype_stop ?_)
  exact wpAny_pure (hQ _ he')
/-! sum, max, min of a tuple of ints -/
open Sem (wp)
variable {l : Addr} {xs : Array (Int × Tok)}
theorem iter_intTup {Q : Value → Shared → Prop} (hl : s.heap.IsTuple l (intItems xs))
    (h : ∀ s₂ : Shared, s₂ = { s with heap := s.heap.push { cls := .type "tuple_iterator", data := .fields #[.ref l, .int 0 0] } } →
      (s₂.heap.IsTupleIter s.heap.objs.size l 0 ∧ s₂.heap.IsTuple l (intItems xs)) → (∀ b ∈ [s.heap.objs.size, l], b < s₂.heap.objs.size) → l ≠ s.heap.objs.size → Q (.ref s.heap.objs.size) s₂) :
    wpAny (model prog w) A (pyIter (.ref l)) Q E s := by
  have hlt : l < s.heap.objs.size := by obtain ⟨_, e, _⟩ := hl; exact Heap.lt_size e
  refine wpAny_pyIter_tuple hl (h _ rfl ⟨⟨_, Heap.get?_push_size _ rfl, rfl, rfl⟩, hl.at fun o e => Heap.get?_push_of_some _ e⟩ (fun b hb => ?_) (Nat.ne_of_lt hlt))
  show b < (s.heap.push _).objs.size
  rw [Heap.size_push]
  rcases List.mem_cons.mp hb with rfl | hb
  · exact Nat.lt_succ_self _
  · rcases List.mem_cons.mp hb with rfl | hb
    · exact Nat.lt_succ_of_lt hlt
    · cases hb
theorem old_keptT {h' : Heap} (hk : ∀ b o, b ∉ [s.heap.objs.size] → (s.heap.push { cls := .type "tuple_iterator", data := .fields #[.ref l, .int 0 0] }).get? b = some o → h'.get? b = some o) :
    ∀ b o, s.heap.get? b = some o → h'.get? b = some o := fun b o e => by
  refine hk b o (fun hm => ?_) (Heap.get?_push_of_some _ e)
  rcases List.mem_cons.mp hm with e1 | hm
  · exact absurd (e1 ▸ Heap.lt_size e) (Nat.lt_irrefl _)
  · cases hm
theorem max_intTup {Q : Value → Shared → Prop} (hh : A.handled = none) (hl : s.heap.IsTuple l (intItems xs)) (hne : 0 < xs.size)
    (h : ∀ v h' tk, (intItems xs)[argBest (fun i j => decide (numAt xs i > numAt xs j)) (xs.size - 1)]? = some v → (∀ b o, s.heap.get? b = some o → h'.get? b = some o) → Q v { s with heap := h', toks := tk }) :
    wpAny (model prog w) A (call (.builtin "max") [.ref l]) Q E s := by
  refine call_max_walk (iter_intTup hl fun s₂ e st hfp hlI => ?_)
  subst e
  refine ⟨_, _, _, _, _, _, _, rfl, Walks.tuple (A := A.in1) hh _ l hlI (intItems xs), st, hfp, by simpa [intItems] using hne, CmpOf.ints_gt (numAt xs) (fun _ _ => intItems_at), fun v h' tk hP hk => ?_⟩
  exact h v h' tk (by simpa [intItems] using hP) (old_keptT hk)
theorem min_intTup {Q : Value → Shared → Prop} (hh : A.handled = none) (hl : s.heap.IsTuple l (intItems xs)) (hne : 0 < xs.size)
    (h : ∀ v h' tk, (intItems xs)[argBest (fun i j => decide (numAt xs i < numAt xs j)) (xs.size - 1)]? = some v → (∀ b o, s.heap.get? b = some o → h'.get? b = some o) → Q v { s with heap := h', toks := tk }) :
    wpAny (model prog w) A (call (.builtin "min") [.ref l]) Q E s := by
  refine call_min_walk (iter_intTup hl fun s₂ e st hfp hlI => ?_)
  subst e
  refine ⟨_, _, _, _, _, _, _, rfl, Walks.tuple (A := A.in1) hh _ l hlI (intItems xs), st, hfp, by simpa [intItems] using hne, CmpOf.ints_lt (numAt xs) (fun _ _ => intItems_at), fun v h' tk hP hk => ?_⟩
  exact h v h' tk (by simpa [intItems] using hP) (old_keptT hk)
theorem sum_intTup {Q : Value → Shared → Prop} (hh : A.handled = none) (hl : s.heap.IsTuple l (intItems xs))
    (h : ∀ h' tk t', (∀ b o, s.heap.get? b = some o → h'.get? b = some o) → Q (.int (preSum (numAt xs) xs.size) t') { s with heap := h', toks := tk }) :
    wpAny (model prog w) A (call (.builtin "sum") [.ref l]) Q E s := by
  refine call_sum_walkG (iter_intTup hl fun s₂ e st hfp hlI => ?_)
  subst e
  refine ⟨_, _, _, _, _, _, numAt xs, rfl, Walks.tuple (A := A.in1) hh _ l hlI (intItems xs), st, hfp, (fun _ _ => intItems_at), fun h' tk t' hk => ?_⟩
  have := h h' tk t' (old_keptT hk)
  simpa [intItems] using this
end
end PySem
namespace L2
open PySem PySem.Spec PyProof.Rows
/-- the tuple at a, each item in a new pair -/
def IteT (K : PySem.W.Frag) (a : Addr) : It :=
  ⟨fun i H => ∃ (xs : List V) (x : V), SqT K H a xs ∧ xs[i]? = some x, fun i H v H' => ∃ T x, v = .ref T ∧ H T = none ∧ H' = upd H T (.tup [.int (i : Nat), x]) ∧ ∀ xs, SqT K H a xs → xs[i]? = some x, fun i H => ∃ xs : List V, SqT K H a xs ∧ xs.length ≤ i⟩
theorem turn_enumT {P : Program} {w : World} {K : PySem.W.Frag} {elts : List Expr} {kk : Nat} {tpos : Pos} (a e it : Addr) (hat : a ≠ it) (hae : a ≠ e) :
    Turn P w K (.Tuple elts kk tpos) (IteT K a) [e, it] e (fun i h => (∃ old, IsEnum h e it ((i : Nat) : Int) old) ∧ h.IsTupleIter it a i ∧ e ≠ it) where
  mem := by simp
  obj := fun i h st b hb => by
    obtain ⟨⟨old, he⟩, ⟨o, ho, hc, hd⟩, _⟩ := st
    have e' : b = e ∨ b = it := by simpa using hb
    rcases e' with z | z
    · rw [z]; exact ⟨_, he, fun v q => nomatch q⟩
    · rw [z]; exact ⟨o, ho, fun v q => by rw [hd] at q; cases q⟩
  keep := fun i h h' st k => let ⟨⟨old, he⟩, hi, hne⟩ := st; ⟨⟨old, k e (by simp) _ he⟩, hi.at fun o q => k it (by simp) o q, hne⟩
  item := by
    intro X hP hw hK hc i pins s σ H E I hf st hg
    subst hP hw hK
    obtain ⟨⟨old, he⟩, hit, hne⟩ := st
    obtain ⟨xs, x, hq, hx⟩ := hg
    obtain ⟨its, rv, p, hz⟩ := I.tuple hq
    obtain ⟨u, hu, ru⟩ := rv.get hx
    have hel : e < s.heap.objs.size := Heap.lt_size he
    have hil : it < s.heap.objs.size := by obtain ⟨_, q, _⟩ := hit; exact Heap.lt_size q
    have hh : X.A.handled = none := I.ok.hd hc
    have D := Draws.tuple (prog := X.prog) (w := X.w) (A := X.A.in1) (by first | exact hh | (show X.A.in1.handled = none; exact hh)) it a hat its.toArray
    have hlt : i < its.toArray.size := by
      have := (List.getElem?_eq_some_iff.mp hu).1
      simpa using this
    refine wpAny_pyNext_enum_itemD D he ⟨hit, (show s.heap.IsTuple a its.toArray from p)⟩ hlt hne (by simp; exact ⟨hne, Ne.symm hae⟩) fun x' h' tk hP ho hst hT hsz hk => ?_
    obtain ⟨hit', _⟩ := hst
    have ex' : x' = u := by
      have hP : its.toArray[i]? = some x' := hP
      rw [List.getElem?_toArray, hu] at hP
      exact (Option.some.inj hP).symm
    subst ex'
    refine ⟨_, rfl, wpAny_letOwnedTupleGo_enum (s := { s with heap := h', toks := tk + 1 }) ho fun h'' he' sb => ?_⟩
    have hT2 : h''.get? s.heap.objs.size = some { cls := .type "tuple", data := .seq #[.int i tk, x'] } := (sb.2 _ (Nat.ne_of_gt hel)).trans hT
    have new : ObjOk X.prog X.w (upd H s.heap.objs.size (.tup [.int (i : Nat), x])) h'' s.heap.objs.size (.tup [.int (i : Nat), x]) :=
      ⟨by show 2 ≤ sizeLine; decide, [.int i tk, x'], .cons ⟨_, rfl⟩ (.cons ru .nil), ⟨_, hT2, rfl, _, rfl⟩⟩
    have I1 : Inv X pins σ (upd H s.heap.objs.size (.tup [.int (i : Nat), x])) { s with heap := h'', toks := tk + 1 } :=
      I.turnedNew (ch := [e, it]) (fun b ob hb q => (sb.2 b (fun z => hb (by simp [z]))).trans (hk b ob (fun z => hb (by simp [z])) (fun z => hb (by simp [z])) q)) hf (Nat.le_refl _) new
    refine ⟨.ref s.heap.objs.size, _, I1, rfl, ⟨_, x, rfl, I.hok.fresh (Nat.le_refl _), rfl, fun ys hy => by rw [I.tuple_inj hy hq]; exact hx⟩, ⟨⟨x', ?_⟩, hit'.at fun o q => (sb.2 it (Ne.symm hne)).trans q, hne⟩, fun b hb => ?_⟩
    · have e1 : ((i + 1 : Nat) : Int) = (i : Int) + 1 := by omega
      rw [e1]; exact he'
    · have hb' : b < s.heap.objs.size := by
        have e' : b = e ∨ b = it := by simpa using hb
        rcases e' with z | z
        · rw [z]; exact hel
        · rw [z]; exact hil
      rw [upd_ne (Nat.ne_of_lt hb')]
      exact (hf b hb).1
  done := by
    intro X hP hw hK hc i pins s σ H E I hf st hg
    subst hP hw hK
    obtain ⟨⟨old, he⟩, hit, hne⟩ := st
    obtain ⟨xs, hq, hx⟩ := hg
    obtain ⟨its, rv, p, hz⟩ := I.tuple hq
    obtain ⟨f0, f1, f2, f3, f4, f5⟩ := hf it (by simp)
    have hl := rv.length
    have hh : X.A.handled = none := I.ok.hd hc
    exact PySem.enumT_end hh he hit (show s.heap.IsTuple a its.toArray from p) (by simp; omega) fun h' eb => ⟨rfl, I.turned (t' := s.toks) (fun b o hb q => eb b o hb q) f0 f1 f3 f4 f5⟩
  self := fun A i s Q E st h => let ⟨⟨_, he⟩, _⟩ := st; wpAny_pyIter_enum he h
end L2

namespace L2
open PySem PySem.Spec PyProof.Rows
section
variable {prog : Program} {w : World} {A : Around} {E : Value → Shared → Prop} {Q : Value → Shared → Prop} {s : Shared} {l : Addr} {its : List Value} {ns : List Int}
theorem sum_rawT (hh : A.handled = none) (hl : s.heap.IsTuple l its.toArray) (hi : IntsAre its ns)
    (h : ∀ h' tk t', (∀ b o, s.heap.get? b = some o → h'.get? b = some o) → Q (.int ns.sum t') { s with heap := h', toks := tk }) : wpAny (model prog w) A (call (.builtin "sum") [.ref l]) Q E s := by
  obtain ⟨xs, e⟩ := hi.allInts.items
  have hn : numsOf (intItems xs).toList = ns := by rw [← e]; exact hi.numsOf
  rw [nums_intItems] at hn
  rw [e] at hl
  refine PySem.sum_intTup hh hl fun h' tk t' hk => ?_
  have := h h' tk t' hk
  rw [preSum_eq, List.take_of_length_le (by simp), hn]; exact this
theorem max_rawT (hh : A.handled = none) (hl : s.heap.IsTuple l its.toArray) (hi : IntsAre its ns) (hne : 0 < ns.length)
    (h : ∀ h' tk M t', (∀ b o, s.heap.get? b = some o → h'.get? b = some o) → M ∈ ns → (∀ a, a ∈ ns → a ≤ M) → Q (.int M t') { s with heap := h', toks := tk }) : wpAny (model prog w) A (call (.builtin "max") [.ref l]) Q E s := by
  obtain ⟨xs, e⟩ := hi.allInts.items
  have hn : numsOf (intItems xs).toList = ns := by rw [← e]; exact hi.numsOf
  rw [nums_intItems] at hn
  subst hn
  rw [e] at hl
  have hsz : 0 < xs.size := by simpa using hne
  refine PySem.max_intTup hh hl hsz fun v h' tk hv hk => ?_
  obtain ⟨t, rfl⟩ := intItems_at hv
  obtain ⟨h1, h2⟩ := argBest_gt (numAt xs) (xs.size - 1)
  refine h h' tk _ t hk ?_ fun a ha => ?_
  · rw [numAt_eq]; exact PySem.getD_mem (by rw [List.length_map, Array.length_toList]; omega)
  · obtain ⟨j, hj, rfl⟩ := mem_getD ha
    rw [List.length_map, Array.length_toList] at hj
    rw [← numAt_eq]; exact h2 j (by omega)
theorem min_rawT (hh : A.handled = none) (hl : s.heap.IsTuple l its.toArray) (hi : IntsAre its ns) (hne : 0 < ns.length)
    (h : ∀ h' tk M t', (∀ b o, s.heap.get? b = some o → h'.get? b = some o) → M ∈ ns → (∀ a, a ∈ ns → M ≤ a) → Q (.int M t') { s with heap := h', toks := tk }) : wpAny (model prog w) A (call (.builtin "min") [.ref l]) Q E s := by
  obtain ⟨xs, e⟩ := hi.allInts.items
  have hn : numsOf (intItems xs).toList = ns := by rw [← e]; exact hi.numsOf
  rw [nums_intItems] at hn
  subst hn
  rw [e] at hl
  have hsz : 0 < xs.size := by simpa using hne
  refine PySem.min_intTup hh hl hsz fun v h' tk hv hk => ?_
  obtain ⟨t, rfl⟩ := intItems_at hv
  obtain ⟨h1, h2⟩ := argBest_lt (numAt xs) (xs.size - 1)
  refine h h' tk _ t hk ?_ fun a ha => ?_
  · rw [numAt_eq]; exact PySem.getD_mem (by rw [List.length_map, Array.length_toList]; omega)
  · obtain ⟨j, hj, rfl⟩ := mem_getD ha
    rw [List.length_map, Array.length_toList] at hj
    rw [← numAt_eq]; exact h2 j (by omega)
end
section
variable {X : Cx}
def rSumQ (K : PySem.W.Frag) : List V → Hp → VK → Prop := fun vs H Q => ∃ (a : Addr) (ns : List Int), vs = [V.ref a] ∧ (SqL K H a (ns.map V.int) ∨ SqT K H a (ns.map V.int)) ∧ Q (.int ns.sum) H
def rMaxQ (K : PySem.W.Frag) : List V → Hp → VK → Prop := fun vs H Q => ∃ (a : Addr) (ns : List Int), vs = [V.ref a] ∧ (SqL K H a (ns.map V.int) ∨ SqT K H a (ns.map V.int)) ∧ 0 < ns.length ∧ ∀ m, m ∈ ns → (∀ y, y ∈ ns → y ≤ m) → Q (.int m) H
def rMinQ (K : PySem.W.Frag) : List V → Hp → VK → Prop := fun vs H Q => ∃ (a : Addr) (ns : List Int), vs = [V.ref a] ∧ (SqL K H a (ns.map V.int) ∨ SqT K H a (ns.map V.int)) ∧ 0 < ns.length ∧ ∀ m, m ∈ ns → (∀ y, y ∈ ns → m ≤ y) → Q (.int m) H
theorem crq_sum (hc : X.calm = true) : CallR X (.builtin "sum") (rSumQ X.K) := by
  intro pins s σ H vs us Q I r h
  obtain ⟨a, ns, rfl, hs | hs, q⟩ := h
  · exact cr_sum hc pins s σ H _ us Q I r ⟨a, ns, rfl, hs, q⟩
  · obtain ⟨its, rv, hl, _⟩ := I.tuple hs
    rw [Vals.ref1 r]
    exact sum_rawT (I.ok.hd hc) (show s.heap.IsTuple a its.toArray from hl) rv.ints fun h' tk t' hk => ⟨.int _, H, I.kept hk, ⟨_, rfl⟩, q⟩
theorem crq_max (hc : X.calm = true) : CallR X (.builtin "max") (rMaxQ X.K) := by
  intro pins s σ H vs us Q I r h
  obtain ⟨a, ns, rfl, hs | hs, hne, q⟩ := h
  · exact cr_max hc pins s σ H _ us Q I r ⟨a, ns, rfl, hs, hne, q⟩
  · obtain ⟨its, rv, hl, _⟩ := I.tuple hs
    rw [Vals.ref1 r]
    exact max_rawT (I.ok.hd hc) (show s.heap.IsTuple a its.toArray from hl) rv.ints hne fun h' tk m t' hk h1 h2 => ⟨.int _, H, I.kept hk, ⟨_, rfl⟩, q m h1 h2⟩
theorem crq_min (hc : X.calm = true) : CallR X (.builtin "min") (rMinQ X.K) := by
  intro pins s σ H vs us Q I r h
  obtain ⟨a, ns, rfl, hs | hs, hne, q⟩ := h
  · exact cr_min hc pins s σ H _ us Q I r ⟨a, ns, rfl, hs, hne, q⟩
  · obtain ⟨its, rv, hl, _⟩ := I.tuple hs
    rw [Vals.ref1 r]
    exact min_rawT (I.ok.hd hc) (show s.heap.IsTuple a its.toArray from hl) rv.ints hne fun h' tk m t' hk h1 h2 => ⟨.int _, H, I.kept hk, ⟨_, rfl⟩, q m h1 h2⟩
def iEnumA (K : PySem.W.Frag) (ta : TA) : TI := fun σ H R => ta σ H fun vs H1 => ∃ a xs, vs = [.ref a] ∧ ((SqL K H1 a xs ∧ R (Ite K a) H1) ∨ (SqT K H1 a xs ∧ R (IteT K a) H1))
theorem pi_enumA {e : Expr} {ta : TA} {p pos tpos : Pos} {elts : List Expr} {kk : Nat} (hg : Gl X "enumerate") (hm : X.mg "enumerate" = none) (ha : PA X [e] ta) (hs : starEach [e] X.env = [(false, eval e X.env)] := by rfl) :
    PI X (.Tuple elts kk tpos) (.Call (.Name "enumerate" p) [e] [] pos) (iEnumA X.K ta) := by
  refine ⟨fun pins s σ H R I h => ?_⟩
  refine Call_ (ld_blt I hg hm boot_enumerate (PyProof.Rows.callWith_type1 (thn (ha.run pos pins s σ H _ I h) fun us s1 ⟨vs, H1, I1, r1, q1⟩ => ?_) hs rfl))
  obtain ⟨a, xs, ex, q⟩ := q1
  subst ex
  have hle : ∀ b, (b = s1.heap.objs.size + 1 ∨ b = s1.heap.objs.size) → s1.heap.objs.size ≤ b := fun b e' => by
    rcases e' with z | z
    · rw [z]; exact Nat.le_add_right _ _
    · rw [z]; exact Nat.le_refl _
  cases r1 with
  | cons r rr =>
    cases rr
    cases r
    rcases q with ⟨hq, q⟩ | ⟨hq, q⟩
    · obtain ⟨its, rv, p', hz⟩ := I1.list hq
      refine call_enumerate_list p'.isList fun h' he hit hsz hk => wpAny_pyIter_enum he ?_
      have I2 : Inv X pins σ H1 { s1 with heap := h' } := I1.kept (t' := s1.toks) hk
      exact ⟨s1.heap.objs.size + 1, [s1.heap.objs.size + 1, s1.heap.objs.size], _, _, H1, rfl, I2, turn_enum a (s1.heap.objs.size + 1) s1.heap.objs.size, ⟨⟨.none, he⟩, hit, Nat.succ_ne_self _⟩, fun b hb => I1.fpOk (hle b (by simpa using hb)) (I1.hok.fresh (hle b (by simpa using hb))), q⟩
    · obtain ⟨its, rv, p', hz⟩ := I1.tuple hq
      have hlt : a < s1.heap.objs.size := p'.lt
      refine PySem.call_enumerate_tuple (show s1.heap.IsTuple a its.toArray from p') fun h' he hit hsz hk => wpAny_pyIter_enum he ?_
      have I2 : Inv X pins σ H1 { s1 with heap := h' } := I1.kept (t' := s1.toks) hk
      exact ⟨s1.heap.objs.size + 1, [s1.heap.objs.size + 1, s1.heap.objs.size], _, _, H1, rfl, I2, turn_enumT a (s1.heap.objs.size + 1) s1.heap.objs.size (Nat.ne_of_lt hlt) (Nat.ne_of_lt (Nat.lt_succ_of_lt hlt)), ⟨⟨.none, he⟩, hit, Nat.succ_ne_self _⟩, fun b hb => I1.fpOk (hle b (by simpa using hb)) (I1.hok.fresh (hle b (by simpa using hb))), q⟩
end
end L2

set_option Elab.async false
set_option linter.all false
set_option maxRecDepth 100000
set_option maxHeartbeats 4000000
set_option autoImplicit false
namespace FL
open PySem PySem.Spec L2

/-! ### sum, max, min of ints -/
def intsU : List U → Option (List Int)
  | [] => some []
  | .int i :: r => (intsU r).map (i :: ·)
  | _ :: _ => none
def maxL : List Int → Int
  | [] => 0
  | [x] => x
  | x :: y :: r => if x < maxL (y :: r) then maxL (y :: r) else x
def minL : List Int → Int
  | [] => 0
  | [x] => x
  | x :: y :: r => if minL (y :: r) < x then minL (y :: r) else x
theorem maxL_spec : ∀ {l : List Int}, l ≠ [] → maxL l ∈ l ∧ ∀ y ∈ l, y ≤ maxL l
  | [], h => absurd rfl h
  | [x], _ => by simp [maxL]
  | x :: y :: r, _ => by
    obtain ⟨h1, h2⟩ := maxL_spec (l := y :: r) (List.cons_ne_nil _ _)
    unfold maxL
    by_cases hx : x < maxL (y :: r)
    · rw [if_pos hx]
      refine ⟨List.mem_cons_of_mem _ h1, fun z hz => ?_⟩
      rcases List.mem_cons.mp hz with e | e
      · rw [e]; omega
      · exact h2 z e
    · rw [if_neg hx]
      refine ⟨List.mem_cons_self, fun z hz => ?_⟩
      rcases List.mem_cons.mp hz with e | e
      · rw [e]; exact Int.le_refl _
      · have := h2 z e; omega
theorem minL_spec : ∀ {l : List Int}, l ≠ [] → minL l ∈ l ∧ ∀ y ∈ l, minL l ≤ y
  | [], h => absurd rfl h
  | [x], _ => by simp [minL]
  | x :: y :: r, _ => by
    obtain ⟨h1, h2⟩ := minL_spec (l := y :: r) (List.cons_ne_nil _ _)
    unfold minL
    by_cases hx : minL (y :: r) < x
    · rw [if_pos hx]
      refine ⟨List.mem_cons_of_mem _ h1, fun z hz => ?_⟩
      rcases List.mem_cons.mp hz with e | e
      · rw [e]; omega
      · exact h2 z e
    · rw [if_neg hx]
      refine ⟨List.mem_cons_self, fun z hz => ?_⟩
      rcases List.mem_cons.mp hz with e | e
      · rw [e]; exact Int.le_refl _
      · have := h2 z e; omega
theorem maxL_eq {l : List Int} {m : Int} (hm : m ∈ l) (h : ∀ y ∈ l, y ≤ m) : m = maxL l := by
  obtain ⟨h1, h2⟩ := maxL_spec (List.ne_nil_of_mem hm)
  have := h _ h1
  have := h2 _ hm
  omega
theorem minL_eq {l : List Int} {m : Int} (hm : m ∈ l) (h : ∀ y ∈ l, m ≤ y) : m = minL l := by
  obtain ⟨h1, h2⟩ := minL_spec (List.ne_nil_of_mem hm)
  have := h _ h1
  have := h2 _ hm
  omega
theorem intsU_map : ∀ (l : List Int), intsU (l.map .int) = some l
  | [] => rfl
  | x :: r => by rw [List.map_cons]; unfold intsU; rw [intsU_map r]; rfl
def bInts (g : List Int → U) (ne : Bool) (us : List U) (G : Gp) : R U := match us with
  | [u] => match seqU G u with
    | some xs => match intsU xs with
      | some ns => if ne = true ∧ ns = [] then .bad else .ok (g ns) G
      | none => .bad
    | none => .bad
  | _ => .bad
abbrev bSum := bInts (fun ns => .int ns.sum) false
abbrev bMax := bInts (fun ns => .int (maxL ns)) true
abbrev bMin := bInts (fun ns => .int (minL ns)) true
section
variable {K : KZ}
theorem intsU_rel {ρ : List Addr} {H : Hp} : ∀ {xs : List U} {vs : List V} {ns : List Int}, RUs K ρ H xs vs → intsU xs = some ns → vs = ns.map V.int
  | _, _, ns, .nil, h => by cases h; rfl
  | _, _, ns, .cons (x := x) (xs := xs) hx ht, h => by
    cases hx with
    | int i =>
      unfold intsU at h
      cases q : intsU xs with
      | none => rw [q] at h; exact nomatch h
      | some ms =>
        rw [q] at h
        cases h
        rw [intsU_rel ht q]; rfl
    | _ => exact nomatch h
theorem bInts_ok {g : List Int → U} {ne : Bool} {ρ : List Addr} {G : Gp} {H : Hp} {us : List U} {vs : List V} {Q : VK} {E : XK} (S : Sim K ρ G H) (r : RUs K ρ H us vs) (h : Post K (RU K) ρ H (bInts g ne us G) Q E) :
    ∃ (a : Addr) (ns : List Int), vs = [.ref a] ∧ (SqL K.K H a (ns.map V.int) ∨ SqT K.K H a (ns.map V.int)) ∧ (ne = true → ns ≠ []) ∧ Post K (RU K) ρ H (.ok (g ns) G) Q E := by
  unfold bInts at h
  split at h
  · rename_i u
    obtain ⟨v, rfl, rv⟩ := r.one
    cases q : seqU G u with
    | none => rw [q] at h; exact h.elim
    | some xs =>
      rw [q] at h
      simp only at h
      cases q2 : intsU xs with
      | none => rw [q2] at h; exact h.elim
      | some ns =>
        rw [q2] at h
        simp only at h
        obtain ⟨p, ws, rfl, hq, hr⟩ := seqU_ok S rv q
        have e := intsU_rel hr q2
        subst e
        by_cases hn : ne = true ∧ ns = []
        · rw [if_pos hn] at h; exact h.elim
        · rw [if_neg hn] at h
          exact ⟨p, ns, rfl, hq, fun h1 h2 => hn ⟨h1, h2⟩, h⟩
  · exact h.elim
theorem oSum : OpN K (rSumQ K.K) bSum := by
  intro ρ G H us vs Q E S r h
  obtain ⟨a, ns, rfl, hq, _, h⟩ := bInts_ok S r h
  exact ⟨a, ns, rfl, hq, h.end_ S (.int _)⟩
theorem oMax : OpN K (rMaxQ K.K) bMax := by
  intro ρ G H us vs Q E S r h
  obtain ⟨a, ns, rfl, hq, hne, h⟩ := bInts_ok S r h
  refine ⟨a, ns, rfl, hq, List.length_pos_iff.mpr (hne rfl), fun m h1 h2 => ?_⟩
  rw [maxL_eq h1 h2]
  exact h.end_ S (.int _)
theorem oMin : OpN K (rMinQ K.K) bMin := by
  intro ρ G H us vs Q E S r h
  obtain ⟨a, ns, rfl, hq, hne, h⟩ := bInts_ok S r h
  refine ⟨a, ns, rfl, hq, List.length_pos_iff.mpr (hne rfl), fun m h1 h2 => ?_⟩
  rw [minL_eq h1 h2]
  exact h.end_ S (.int _)
end
section
variable {X : Cx} {Z : ZZ X.K} {W : WX} {e e2 : Expr} {es : List Expr} {fa : Ev → Gp → R (List U)} {f : Ev → Gp → R U} {p pos tpos : Pos} {kk : Nat} {elts : List Expr}
theorem fsum (hc : X.calm = true) (hm : X.mg "sum" = none) (ha : FA X Z W [e] fa) (hg : Gl X "sum" := by rfl) (he : starEach [e] X.env = (false, eval e X.env) :: starEach [] X.env := by rfl) (hpl : (backTo pos (starEach [] X.env)).any (·.1) = false := by rfl) : FE X Z W (.Call (.Name "sum" p) [e] [] pos) (eCall bSum fa) :=
  fcallB oSum (crq_sum hc) hg hm (by decide +kernel) ha (by decide) (by decide) he hpl
theorem fmax (hc : X.calm = true) (hm : X.mg "max" = none) (ha : FA X Z W [e] fa) (hg : Gl X "max" := by rfl) (he : starEach [e] X.env = (false, eval e X.env) :: starEach [] X.env := by rfl) (hpl : (backTo pos (starEach [] X.env)).any (·.1) = false := by rfl) : FE X Z W (.Call (.Name "max" p) [e] [] pos) (eCall bMax fa) :=
  fcallB oMax (crq_max hc) hg hm (by decide +kernel) ha (by decide) (by decide) he hpl
theorem fmin (hc : X.calm = true) (hm : X.mg "min" = none) (ha : FA X Z W [e] fa) (hg : Gl X "min" := by rfl) (he : starEach [e] X.env = (false, eval e X.env) :: starEach [] X.env := by rfl) (hpl : (backTo pos (starEach [] X.env)).any (·.1) = false := by rfl) : FE X Z W (.Call (.Name "min" p) [e] [] pos) (eCall bMin fa) :=
  fcallB oMin (crq_min hc) hg hm (by decide +kernel) ha (by decide) (by decide) he hpl
theorem fmax2 (hc : X.calm = true) (hm : X.mg "max" = none) (ha : FA X Z W [e, e2] fa) (hg : Gl X "max" := by rfl) (he : starEach [e, e2] X.env = (false, eval e X.env) :: starEach [e2] X.env := by rfl) (hpl : (backTo pos (starEach [e2] X.env)).any (·.1) = false := by rfl) : FE X Z W (.Call (.Name "max" p) [e, e2] [] pos) (eCall bMax2 fa) :=
  fcallB oMax2 (call_max2 hc) hg hm (by decide +kernel) ha (by decide) (by decide) he hpl
theorem fmin2 (hc : X.calm = true) (hm : X.mg "min" = none) (ha : FA X Z W [e, e2] fa) (hg : Gl X "min" := by rfl) (he : starEach [e, e2] X.env = (false, eval e X.env) :: starEach [e2] X.env := by rfl) (hpl : (backTo pos (starEach [e2] X.env)).any (·.1) = false := by rfl) : FE X Z W (.Call (.Name "min" p) [e, e2] [] pos) (eCall bMin2 fa) :=
  fcallB oMin2 (call_min2 hc) hg hm (by decide +kernel) ha (by decide) (by decide) he hpl
theorem flen (hm : X.mg "len" = none) (ha : FA X Z W [e] fa) (hg : Gl X "len" := by rfl) (he : starEach [e] X.env = (false, eval e X.env) :: starEach [] X.env := by rfl) (hpl : (backTo pos (starEach [] X.env)).any (·.1) = false := by rfl) : FE X Z W (.Call (.Name "len" p) [e] [] pos) (eCall bLen fa) :=
  fcallB oLen call_len hg hm (by decide +kernel) ha (by decide) (by decide) he hpl
theorem fabs (hm : X.mg "abs" = none) (ha : FA X Z W [e] fa) (hg : Gl X "abs" := by rfl) (he : starEach [e] X.env = (false, eval e X.env) :: starEach [] X.env := by rfl) (hpl : (backTo pos (starEach [] X.env)).any (·.1) = false := by rfl) : FE X Z W (.Call (.Name "abs" p) [e] [] pos) (eCall bAbs fa) :=
  fcallB oAbs call_abs hg hm (by decide +kernel) ha (by decide) (by decide) he hpl
theorem fcint (hm : X.mg "int" = none) (ha : FA X Z W [e] fa) (hg : Gl X "int" := by rfl) (he : starEach [e] X.env = (false, eval e X.env) :: starEach [] X.env := by rfl) (hpl : (backTo pos (starEach [] X.env)).any (·.1) = false := by rfl) : FE X Z W (.Call (.Name "int" p) [e] [] pos) (eCall bInt fa) :=
  fcallTy oInt call_int1 hg hm (by decide +kernel) ha (by decide) (by decide) he hpl
theorem fctuple (hm : X.mg "tuple" = none) (ha : FA X Z W [e] fa) (hg : Gl X "tuple" := by rfl) (he : starEach [e] X.env = (false, eval e X.env) :: starEach [] X.env := by rfl) (hpl : (backTo pos (starEach [] X.env)).any (·.1) = false := by rfl) : FE X Z W (.Call (.Name "tuple" p) [e] [] pos) (eCall bTuple fa) :=
  fcallTy oTuple call_tuple_of hg hm (by decide +kernel) ha (by decide) (by decide) he hpl
theorem fclist (hm : X.mg "list" = none) (ha : FA X Z W [e] fa) (hg : Gl X "list" := by rfl) (he : starEach [e] X.env = (false, eval e X.env) :: starEach [] X.env := by rfl) (hpl : (backTo pos (starEach [] X.env)).any (·.1) = false := by rfl) : FE X Z W (.Call (.Name "list" p) [e] [] pos) (eCall bList fa) :=
  fcallTy oList call_list_of hg hm (by decide +kernel) ha (by decide) (by decide) he hpl
/-! ### enumerate, zip, reversed(range) -/
def kEnum (us : List U) (G : Gp) : Option Src := match us with
  | [.tup xs] => some (.items (xs.mapIdx fun i x => .tup [.int (i : Nat), x]))
  | [.rl xs] => some (.items (xs.mapIdx fun i x => .tup [.int (i : Nat), x]))
  | [.ref l] => match G[l]? with
    | some (.lst xs) => some (.live (xs.length + 1) fun i G => match G[l]? with
      | some (.lst ys) => some (ys[i]?.map fun x => .tup [.int (i : Nat), x])
      | _ => none)
    | _ => none
  | _ => none
theorem pair_yld {K : KZ} {ρ : List Addr} {G : Gp} {H : Hp} {u w : U} {v z : V} {T : Addr} (S : Sim K ρ G H) (r : RU K ρ H u v) (q : RU K ρ H w z) (hT : H T = none) :
    Stb K H (upd H T (.tup [v, z])) ∧ Sim K ρ G (upd H T (.tup [v, z])) ∧ RU K ρ (upd H T (.tup [v, z])) (.tup [u, w]) (.ref T) :=
  ⟨stb_new hT, S.tup hT, .tup (.inl upd_same) (.cons (r.mono pre_refl (stb_new hT)) (.cons (q.mono pre_refl (stb_new hT)) .nil))⟩
theorem wk_enumT {K : KZ} {ρ : List Addr} {H : Hp} {xs : List U} {vs : List V} {a : Addr} (h : TupAt K H a vs) (r : RUs K ρ H xs vs) : Wk K ρ H (.items (xs.mapIdx fun i x => .tup [.int (i : Nat), x])) (IteT K.K a) := by
  intro ρ' H' G i p s S
  show match some (xs.mapIdx fun i x => U.tup [.int (i : Nat), x])[i]? with
    | none => True
    | some none => (IteT K.K a).stop i H'
    | some (some u) => (IteT K.K a).go i H' ∧ ∀ x H'', (IteT K.K a).yld i H' x H'' → Stb K H' H'' ∧ Sim K ρ' G H'' ∧ RU K ρ' H'' u x
  have h' := (s.tupAt h).sq
  rw [List.getElem?_mapIdx]
  cases q : xs[i]? with
  | none => exact ⟨vs, h', by rw [← r.len]; exact List.getElem?_eq_none_iff.mp q⟩
  | some u =>
    obtain ⟨v, e, rv⟩ := r.getU q
    refine ⟨⟨vs, v, h', e⟩, fun x H'' y => ?_⟩
    obtain ⟨T, z, rfl, hT, rfl, y⟩ := y
    have := y vs h'
    rw [e] at this; cases this
    exact pair_yld S (.int _) (rv.mono p s) hT
theorem wk_enumR {K : KZ} {ρ : List Addr} {H : Hp} {xs : List U} {vs : List V} {a : Addr} (h : RLs K H a vs) (r : RUs K ρ H xs vs) : Wk K ρ H (.items (xs.mapIdx fun i x => .tup [.int (i : Nat), x])) (Ite K.K a) := by
  intro ρ' H' G i p s S
  show match some (xs.mapIdx fun i x => U.tup [.int (i : Nat), x])[i]? with
    | none => True
    | some none => (Ite K.K a).stop i H'
    | some (some u) => (Ite K.K a).go i H' ∧ ∀ x H'', (Ite K.K a).yld i H' x H'' → Stb K H' H'' ∧ Sim K ρ' G H'' ∧ RU K ρ' H'' u x
  have h' := (s.rls h).sq
  rw [List.getElem?_mapIdx]
  cases q : xs[i]? with
  | none => exact ⟨vs, h', by rw [← r.len]; exact List.getElem?_eq_none_iff.mp q⟩
  | some u =>
    obtain ⟨v, e, rv⟩ := r.getU q
    refine ⟨⟨vs, v, h', e⟩, fun x H'' y => ?_⟩
    obtain ⟨T, z, rfl, hT, rfl, y⟩ := y
    have := y vs h'
    rw [e] at this; cases this
    exact pair_yld S (.int _) (rv.mono p s) hT
theorem wk_enumL {K : KZ} {ρ : List Addr} {H : Hp} {l : Nat} {a : Addr} {n : Nat} (ha : ρ[l]? = some a) : Wk K ρ H (.live n fun i G => match G[l]? with
      | some (.lst ys) => some (ys[i]?.map fun x => .tup [.int (i : Nat), x])
      | _ => none) (Ite K.K a) := by
  intro ρ' H' G i p s S
  show match (match G[l]? with
      | some (.lst ys) => some (ys[i]?.map fun x => .tup [.int (i : Nat), x])
      | _ => none : Option (Option U)) with
    | none => True
    | some none => (Ite K.K a).stop i H'
    | some (some u) => (Ite K.K a).go i H' ∧ ∀ x H'', (Ite K.K a).yld i H' x H'' → Stb K H' H'' ∧ Sim K ρ' G H'' ∧ RU K ρ' H'' u x
  cases q : G[l]? with
  | none => trivial
  | some o =>
    cases o with
    | lst ys =>
      obtain ⟨vs, e, r⟩ := S.list (pre_get p ha) q
      show match some (ys[i]?.map fun x => U.tup [.int (i : Nat), x]) with
        | none => True
        | some none => (Ite K.K a).stop i H'
        | some (some u) => (Ite K.K a).go i H' ∧ ∀ x H'', (Ite K.K a).yld i H' x H'' → Stb K H' H'' ∧ Sim K ρ' G H'' ∧ RU K ρ' H'' u x
      cases q2 : ys[i]? with
      | none => exact ⟨vs, SqL.of e, by rw [← r.len]; exact List.getElem?_eq_none_iff.mp q2⟩
      | some u =>
        obtain ⟨v, e2, rv⟩ := r.getU q2
        refine ⟨⟨vs, v, SqL.of e, e2⟩, fun x H'' y => ?_⟩
        obtain ⟨T, z, rfl, hT, rfl, y⟩ := y
        have := y vs (SqL.of e)
        rw [e2] at this; cases this
        exact pair_yld S (.int _) rv hT
    | _ => trivial
theorem fienum (hm : X.mg "enumerate" = none) (ha : FA X Z W [e] fa) (hg : Gl X "enumerate" := by rfl) (hs : starEach [e] X.env = [(false, eval e X.env)] := by rfl) : FI X Z W (.Tuple elts kk tpos) (.Call (.Name "enumerate" p) [e] [] pos) (iOfs fa kEnum) := by
  refine PIimp (pi_enumA hg hm ha hs) fun σ H Q h => ?_
  refine tG_mono (iSteps h) fun vs H1 ⟨ρ1, G1, us, src, S1, r1, hk, q⟩ => ?_
  unfold kEnum at hk
  split at hk
  · cases hk
    obtain ⟨v, rfl, rv⟩ := r1.one
    cases rv with
    | tup ht hr => exact ⟨_, _, rfl, .inr ⟨ht.sq, q _ (wk_enumT ht hr)⟩⟩
  · cases hk
    obtain ⟨v, rfl, rv⟩ := r1.one
    cases rv with
    | rl ht hr => exact ⟨_, _, rfl, .inl ⟨ht.sq, q _ (wk_enumR ht hr)⟩⟩
  · rename_i l
    obtain ⟨v, rfl, rv⟩ := r1.one
    cases rv with
    | ref ha' =>
      cases q2 : G1[l]? with
      | none => rw [q2] at hk; exact nomatch hk
      | some o =>
        rw [q2] at hk
        cases o with
        | lst xs =>
          cases hk
          obtain ⟨ws, e1, _⟩ := S1.list ha' q2
          exact ⟨_, ws, rfl, .inl ⟨SqL.of e1, q _ (wk_enumL ha')⟩⟩
        | _ => exact nomatch hk
  · exact nomatch hk
/-! reversed(range(a, b)), reversed(range(b)) -/
def kRevR (us : List U) (G : Gp) : Option Src := match us with
  | [.int a, .int b] => if -(2 ^ 62) ≤ a ∧ a < 2 ^ 62 ∧ -(2 ^ 62) ≤ b ∧ b < 2 ^ 62 then some (.live ((b - a).toNat + 1) fun i _ => some (if i < (b - a).toNat then some (.int (a + (((b - a).toNat : Nat) : Int) - 1 + (i : Nat) * (-1))) else none)) else none
  | [.int b] => if -(2 ^ 62) ≤ b ∧ b < 2 ^ 62 then some (.live ((b - 0).toNat + 1) fun i _ => some (if i < (b - 0).toNat then some (.int (0 + (((b - 0).toNat : Nat) : Int) - 1 + (i : Nat) * (-1))) else none)) else none
  | _ => none
theorem wk_rngC {K : KZ} {ρ : List Addr} {H : Hp} {lo c : Int} {n m : Nat} : Wk K ρ H (.live m fun i _ => some (if i < n then some (.int (lo + (i : Nat) * c)) else none)) (Itc lo c n) := by
  intro ρ' H' G i p s S
  show match some (if i < n then some (U.int (lo + (i : Nat) * c)) else none) with
    | none => True
    | some none => (Itc lo c n).stop i H'
    | some (some u) => (Itc lo c n).go i H' ∧ ∀ x H'', (Itc lo c n).yld i H' x H'' → Stb K H' H'' ∧ Sim K ρ' G H'' ∧ RU K ρ' H'' u x
  by_cases hi : i < n
  · rw [if_pos hi]
    refine ⟨hi, fun x H'' y => ?_⟩
    obtain ⟨rfl, rfl⟩ := y
    exact ⟨Stb.refl, S, .int _⟩
  · rw [if_neg hi]; exact Nat.le_of_not_lt hi
theorem firev2 {tg a b : Expr} {f g : Ev → Gp → R U} {p2 pos2 : Pos} (hm : X.mg "reversed" = none) (hm2 : X.mg "range" = none) (ha : FE X Z W a f) (hb : FE X Z W b g) (hg : Gl X "reversed" := by rfl) (hg2 : Gl X "range" := by rfl)
    (na : starEach [a, b] X.env = (false, eval a X.env) :: starEach [b] X.env := by rfl) (nb : starEach [b] X.env = (false, eval b X.env) :: starEach [] X.env := by rfl) (hp : (backTo pos2 (starEach [b] X.env)).any (·.1) = false := by rfl)
    (hs : starEach [.Call (.Name "range" p2) [a, b] [] pos2] X.env = (false, eval (.Call (.Name "range" p2) [a, b] [] pos2) X.env) :: starEach [] X.env := by rfl) : FI X Z W tg (.Call (.Name "reversed" p) [.Call (.Name "range" p2) [a, b] [] pos2] [] pos) (iOfs (aCons f (aCons g aNil)) kRevR) := by
  refine PIimp (pi_revR hg hm (prg_2 hg2 hm2 ha hb na nb hp) hs) fun σ H Q h => ?_
  have h2 := iSteps h
  obtain ⟨ρ, G, env, S, e, h2⟩ := h2
  have h2 : Post (kz X Z) (RUs (kz X Z)) ρ H ((f env G).bind fun x G1 => ((g env G1).bind fun y G2 => R.ok [y] G2).bind fun xs G2 => .ok (x :: xs) G2) (fun vs H1 => ∃ ρ1 G1 us src, Sim (kz X Z) ρ1 G1 H1 ∧ RUs (kz X Z) ρ1 H1 us vs ∧ kRevR us G1 = some src ∧ ∀ J, Wk (kz X Z) ρ1 H1 src J → Q J H1) fun c d H' => W c d σ H' := h2
  have e2 : (fun x G1 => ((g env G1).bind fun y G2 => R.ok [y] G2).bind fun xs G2 => R.ok (x :: xs) G2) = fun x G1 => (g env G1).bind fun y G2 => R.ok [x, y] G2 := by
    funext x G1
    cases g env G1 <;> rfl
  rw [e2] at h2
  refine tG_mono (step (rel := RU (kz X Z)) (rel' := RUs (kz X Z)) S e h2) fun v H1 ⟨ρ1, G1, x, p1, s1, S1, e1, r1, h1⟩ => ?_
  refine tG_mono (step (rel := RU (kz X Z)) (rel' := RUs (kz X Z)) S1 e1 h1) fun w H2 ⟨ρ2, G2, y, p2, s2, S2, e2, r2, h3⟩ => ?_
  obtain ⟨ρ3, G3, us, src, S3, r3, hk, q⟩ := h3 [v, w] ρ2 H2 pre_refl Stb.refl S2 (.cons (r1.mono p2 s2) (.cons r2 .nil))
  unfold kRevR at hk
  split at hk
  · rename_i i j
    split at hk
    · rename_i hb'
      cases hk
      obtain ⟨v', w', ev, rv, rw'⟩ := r3.two
      cases ev
      cases rv
      cases rw'
      exact ⟨i, j, rfl, rfl, hb'.1, hb'.2.1, hb'.2.2.1, hb'.2.2.2, q _ wk_rngC⟩
    · exact nomatch hk
  · obtain ⟨v', ev, _⟩ := r3.one
    cases ev
  · exact nomatch hk
end
end FL

set_option Elab.async false
set_option linter.all false
set_option maxRecDepth 100000
set_option maxHeartbeats 4000000
set_option autoImplicit false
/-! helpers for the printed derivations, the hook, the end -/
namespace FL
open PySem PySem.Spec L2

theorem takesW0 {X : Cx} : Takes X W0 := fun u s' x => by
  obtain ⟨a, B, sI, pins, σ, H, cls, d, e, I, nb, up, sky, na, os, ag, w⟩ := x
  exact w.elim
def badF : List U → Gp → R U := fun _ _ => .bad
theorem fnF_bad {P : Program} {w : World} {K : PySem.W.Frag} {mg : Str → Option Value} {base : Heap} {k : Nat} {f : Addr} {fd : FuncData} {ps : List Str} : FnF P w K mg base k f fd ps badF :=
  ⟨fun vs H Q E h => h.1, fun A outer s H args us vs Q E hr he hb hv hs => by
    obtain ⟨_, Z, ρ, G, us, _, _, _, h⟩ := hs
    exact h.elim⟩
theorem ar_bad {n : Nat} : Ar n badF := fun _ _ _ => rfl

def gAugAdd (x y : U) (G : Gp) : R U := match x, y with
  | .int i, .int j => .ok (.int (i + j)) G
  | _, _ => .bad
def bigN : Nat := 1000000000
theorem isFn_ty {K : PySem.W.Frag} {a : Addr} (h : PySem.W.isFn K (.ref a) = true) : PySem.W.typeIn K (.ref a) = some (.type "function") := eq_of_beq h

/-! ### the facts of a program's errors -/
def anc (t : List (Str × List Str)) (c : Str) : List Str := (t.lookup c).getD []
structure EX (K : PySem.W.Frag) (t : List (Str × List Str)) (ns : List Str) (ks : List (List Str)) (fl : List Str) : Prop where
  exm : ∀ p ∈ t, ∀ x ∈ ns, PySem.W.exmOne K (.ref (He.ga K p.1)) (.ref (He.ga K x)) = some (p.2.contains x)
  kit : ∀ c ∈ t.map (·.1), ∀ xs ∈ ks, PySem.W.kitAny K (.ref (He.ga K c)) (xs.map fun x => .ref (He.ga K x)) = some ((anc t c).any fun a => xs.contains a)
  no : ∀ c ∈ t.map (·.1), ∀ f ∈ fl, PySem.W.findIn K (.ref (He.ga K c)) f = some none
  xi : ∀ c ∈ t.map (·.1), XiK K (He.ga K c)
def exB (t : List (Str × List Str)) (ns : List Str) (ks : List (List Str)) (fl : List Str) (K : PySem.W.Frag) : Bool :=
  (t.all fun p => ns.all fun x => decide (PySem.W.exmOne K (.ref (He.ga K p.1)) (.ref (He.ga K x)) = some (p.2.contains x))) &&
  (((t.map (·.1)).all fun c => ks.all fun xs => decide (PySem.W.kitAny K (.ref (He.ga K c)) (xs.map fun x => .ref (He.ga K x)) = some ((anc t c).any fun a => xs.contains a))) &&
  (((t.map (·.1)).all fun c => fl.all fun f => decide (PySem.W.findIn K (.ref (He.ga K c)) f = some none)) &&
  ((t.map (·.1)).all fun c => xiB K (He.ga K c))))
theorem exB_ok {t : List (Str × List Str)} {ns : List Str} {ks : List (List Str)} {fl : List Str} {K : PySem.W.Frag} (h : exB t ns ks fl K = true) : EX K t ns ks fl := by
  obtain ⟨h1, h⟩ := Bool.and_eq_true_iff.mp h
  obtain ⟨h2, h⟩ := Bool.and_eq_true_iff.mp h
  obtain ⟨h3, h4⟩ := Bool.and_eq_true_iff.mp h
  exact ⟨fun p hp x hx => of_decide_eq_true (List.all_eq_true.mp (List.all_eq_true.mp h1 p hp) x hx),
    fun c hc xs hxs => of_decide_eq_true (List.all_eq_true.mp (List.all_eq_true.mp h2 c hc) xs hxs),
    fun c hc f hf => of_decide_eq_true (List.all_eq_true.mp (List.all_eq_true.mp h3 c hc) f hf),
    fun c hc => xiB_ok (List.all_eq_true.mp h4 c hc)⟩
theorem EX.hx {K : PySem.W.Frag} {t : List (Str × List Str)} {ns : List Str} {ks : List (List Str)} {fl : List Str} (e : EX K t ns ks fl) {x : Str} (hx : x ∈ ns) : ∀ c as, (c, as) ∈ t → PySem.W.exmOne K (.ref (He.ga K c)) (.ref (He.ga K x)) = some (as.contains x) := fun c as h => e.exm (c, as) h x hx
theorem paired_own {K : PySem.W.Frag} : ∀ xs : List Str, Paired ClsV (xs.map fun x => V.ref (He.ga K x)) (xs.map fun x => Value.ref (He.ga K x))
  | [] => .nil
  | _ :: r => .cons (.own _) (paired_own r)
def kitT (t : List (Str × List Str)) (c : Str) (xs : List Str) : Bool := (anc t c).any fun a => xs.contains a
theorem EX.kit1 {K : PySem.W.Frag} {t : List (Str × List Str)} {ns : List Str} {ks : List (List Str)} {fl : List Str} (e : EX K t ns ks fl) {c : Str} (hc : c ∈ t.map (·.1)) {x : Str} (hx : [x] ∈ ks) : PySem.W.kitOne K (.ref (He.ga K c)) (.ref (He.ga K x)) = some (kitT t c [x]) := by
  have h := e.kit c hc [x] hx
  have h : (match PySem.W.kitOne K (.ref (He.ga K c)) (.ref (He.ga K x)) with
    | some true => some true
    | some false => some false
    | none => none) = some (kitT t c [x]) := h
  cases q : PySem.W.kitOne K (.ref (He.ga K c)) (.ref (He.ga K x)) with
  | none => rw [q] at h; exact nomatch h
  | some b => rw [q] at h; cases b <;> exact h

/-! ### the hook: facts, defs, one more Bool -/
abbrev AlL : Type := He.AlD × Bool
def obsL (fa : List He.Fa) (fn : List He.DefD) (ex : PySem.W.Frag → Bool) (K : PySem.W.Frag) : AlL := (He.obsD fa fn K, ex K)
def SaysL (fa : List He.Fa) (fn : List He.DefD) (ex : PySem.W.Frag → Bool) (K : PySem.W.Frag) : Prop := He.SaysD fa fn K ∧ ex K = true
def obsLG (n : Nat) (fa : List He.Fa) (fn : List He.DefD) (ex : PySem.W.Frag → Bool) (g : Addr → Option Obj) : AlL := obsL fa fn ex (He.frG g (He.asD g n))
def hookL (n : Nat) (fa : List He.Fa) (fn : List He.DefD) (ex : PySem.W.Frag → Bool) : PySem.W.Hook where
  α := AlL
  obs := fun s => obsLG n fa fn ex s.heap.get?
  val := fun _ => (He.valD fn, true)
  says := fun _ h => ∃ K : PySem.W.Frag, K.In h ∧ SaysL fa fn ex K
  of := fun _ _ e => ⟨_, He.frG_in, congrArg (fun z : AlL => z.1) e, congrArg (fun z : AlL => z.2) e⟩
  keeps := fun _ _ _ ⟨K, hK, c⟩ k => ⟨K, PySem.W.Frag.In.keeps hK k, c⟩
theorem obsLG_eq {n : Nat} {fa : List He.Fa} {fn : List He.DefD} {ex : PySem.W.Frag → Bool} {g : Addr → Option Obj} {s : Shared} (h : ∀ a, g a = s.heap.get? a) : obsLG n fa fn ex g = (hookL n fa fn ex).obs s := by
  have e : g = s.heap.get? := funext h
  rw [e] <;> rfl

/-! ### the end -/
open PyProof.Rows in
theorem walk_ofEB {l : PySem.W.OpenLaw} {n k : Nat} {q : Program} {loose : List Str} {XP : (Str → Option Value) → Heap → Prop} {YP : World → Heap → Prop} {d : DefRec} {CX : World → CXT} {x : Str}
    (hn : l.most = some n) (hn2 : n ≤ sizeLine) (hdf : d.params.defaults = []) (hr : Room k callerA)
    (F : ∀ (w : World) (mg : Str → Option Value) (fa : Addr) (h : Heap), YP w h → h.Ns mainGlobals mg → mg d.name = some (.ref fa) →
      ∃ (K : PySem.W.Frag) (fd : FuncData) (sp : Sp), K.In h ∧ (∀ (s : Shared) (u : Value), BindsTo s fd ⟨[u], []⟩ [(x, u)]) ∧
        (∀ (H : Hp) (a : Addr) (ns : List Int), ns.length ≤ n → (∀ z ∈ ns, Builtin.Int.intBits z ≤ 1048576) → Only H → SqL K H a (ns.map V.int) → sp [.ref a] H (fun v _ => v = .bl true) fun _ _ _ => False) ∧
        ∀ base : Heap, K.In base → base.Ns mainGlobals mg → FnOk l.prog w K mg base (CX w) k fa fd [x] sp)
    (hCX : ∀ (w : World) (H : Hp) (s : Shared) (e : Value) (s' : Shared), CX w [] H s (fun _ _ _ => False) e s' → False) :
    PySem.W.WalkO q loose XP YP l.row.toRowW d [] (fun f vs => PySem.call f vs) := by
  refine Att.attach_callB hn hdf fun w s₀ s₁ mg mb fa o pm cd doc a vs ns G Y ho hd hcd hmg hobj hints hlen hbits hg => ?_
  obtain ⟨K, fd, sp, KX, hb, hsp, hF⟩ := F w mg fa _ Y G.T.g hmg
  exact law_call KX G.T.g G.T.b G.T.builtins G.T.nolimit hg hobj hints (Nat.le_trans hlen hn2) hr hF hb (fun H hO hS => hsp H a ns hlen hbits hO hS) fun H e s' => hCX w H s₁ e s'
theorem cx_false (P : Program) (w : World) (H : Hp) (s : Shared) (e : Value) (s' : Shared) (h : L2.CX P w [] H s (fun _ _ _ => False) e s') : False := by
  obtain ⟨a, B, H', cls, d, _, _, _, _, _, _, _, h⟩ := h
  exact h
theorem law_sp {K : PySem.W.Frag} {F : List U → Gp → R U} {ns : List Int} {H : Hp} {a : Addr} {E : XK} (h : ∃ G', F [.rl (ns.map U.int)] [] = .ok (.bl true) G') (hO : Only H) (hS : SqL K H a (ns.map V.int)) : spF K 1 F [.ref a] H (fun v _ => v = .bl true) E := by
  obtain ⟨G', h⟩ := h
  refine ⟨rfl, zT, [], [], [.rl (ns.map U.int)], rfl, ⟨rfl, List.nodup_nil, fun l o a h => by simp at h, trivial⟩, .cons (.rl ?_ (RUs.ints ns)) .nil, ?_⟩
  · rcases hS with (h | ⟨o, h⟩) | h
    · rcases hO a with e | ⟨o, xs, e⟩
      · rw [h] at e; cases e
      · rw [h] at e; cases e
    · exact .inl ⟨o, h⟩
    · exact .inr h
  · rw [h]
    intro b ρ' H' p s S r
    cases r
    rfl
end FL

set_option Elab.async false
set_option linter.all false
set_option maxRecDepth 100000
set_option maxHeartbeats 4000000
set_option autoImplicit false
/-! plain tools: what the combinators give -/
namespace FL
open PySem PySem.Spec L2
section
variable {α β : Type} {env env' : Ev} {G G' G1 : Gp}
@[simp] theorem r_bind_ok (a : α) (G : Gp) (k : α → Gp → R β) : (R.ok a G).bind k = k a G := id rfl
@[simp] theorem r_bind_exc (c : Str) (fs : List (Str × U)) (G : Gp) (k : α → Gp → R β) : (R.exc c fs G : R α).bind k = .exc c fs G := id rfl
@[simp] theorem r_bindN_ok (a : α) (G : Gp) (k : α → Gp → R β) : (R.ok a G).bindN k = k a G := id rfl
@[simp] theorem r_then_ok (a : α) (G : Gp) (e : Ev) (k : α → Gp → SR) : (R.ok a G).andThen e k = k a G := id rfl
@[simp] theorem r_then_exc (c : Str) (fs : List (Str × U)) (G : Gp) (e : Ev) (k : α → Gp → SR) : (R.exc c fs G : R α).andThen e k = .exc c fs e G := id rfl
@[simp] theorem eC_ (u : U) : eC u env G = .ok u G := id rfl
@[simp] theorem eVar_ (i : Nat) : eVar i env G = match env[i]? with
  | some (some u) => .ok u G
  | _ => .bad := id rfl
@[simp] theorem eBin_ (g : U → U → Gp → R U) (fa fb : Ev → Gp → R U) : eBin g fa fb env G = (fa env G).bind fun x G1 => (fb env G1).bind fun y G2 => g x y G2 := id rfl
@[simp] theorem eUn_ (g : U → Gp → R U) (fa : Ev → Gp → R U) : eUn g fa env G = (fa env G).bind g := id rfl
@[simp] theorem asB_ok (b : Bool) : asB (.ok (.bl b) G) = .ok b G := id rfl
@[simp] theorem bVal_ (f : Ev → Gp → R U) : bVal f env G = asB (f env G) := id rfl
@[simp] theorem tAndB_ (f g : Ev → Gp → R Bool) : tAndB f g env G = (f env G).bind fun c G1 => if c = true then g env G1 else .ok false G1 := id rfl
@[simp] theorem tOrB_ (f g : Ev → Gp → R Bool) : tOrB f g env G = (f env G).bind fun c G1 => if c = true then .ok true G1 else g env G1 := id rfl
@[simp] theorem tNotB_ (f : Ev → Gp → R Bool) : tNotB f env G = (f env G).bind fun c G1 => .ok (!c) G1 := id rfl
@[simp] theorem eAnd_ (f g : Ev → Gp → R U) : eAnd f g env G = (asB (f env G)).bind fun c G1 => if c = true then g env G1 else .ok (.bl false) G1 := id rfl
@[simp] theorem eOr_ (f g : Ev → Gp → R U) : eOr f g env G = (asB (f env G)).bind fun c G1 => if c = true then .ok (.bl true) G1 else g env G1 := id rfl
@[simp] theorem eNot_ (f : Ev → Gp → R U) : eNot f env G = (asB (f env G)).bind fun c G1 => .ok (.bl (!c)) G1 := id rfl
@[simp] theorem eIf_ (c : Ev → Gp → R Bool) (f g : Ev → Gp → R U) : eIf c f g env G = (c env G).bind fun b G1 => if b = true then f env G1 else g env G1 := id rfl
@[simp] theorem aNil_ : aNil env G = .ok [] G := id rfl
@[simp] theorem aCons_ (f : Ev → Gp → R U) (g : Ev → Gp → R (List U)) : aCons f g env G = (f env G).bind fun x G1 => (g env G1).bind fun xs G2 => .ok (x :: xs) G2 := id rfl
@[simp] theorem eTup_ (g : Ev → Gp → R (List U)) : eTup g env G = (g env G).bind fun xs G1 => if xs.length ≤ 16777216 then .ok (.tup xs) G1 else .bad := id rfl
@[simp] theorem eLst_ (g : Ev → Gp → R (List U)) : eLst g env G = (g env G).bind fun xs G1 => if xs.length ≤ 16777216 then .ok (.ref G1.length) (G1 ++ [.lst xs]) else .bad := id rfl
@[simp] theorem sNil_ : sNil env G = .nx env G := id rfl
@[simp] theorem sSeq_ (g1 g2 : Ev → Gp → SR) : sSeq g1 g2 env G = match g1 env G with
  | .nx env' G' => g2 env' G'
  | r => r := id rfl
theorem seq_nx {g1 g2 : Ev → Gp → SR} {e' : Ev} {G' : Gp} (h : g1 env G = .nx e' G') : sSeq g1 g2 env G = g2 e' G' := by rw [sSeq_, h]
@[simp] theorem sExpr_ (f : Ev → Gp → R U) : sExpr f env G = (f env G).andThen env fun _ G1 => .nx env G1 := id rfl
@[simp] theorem sRet_ (f : Ev → Gp → R U) : sRet f env G = (f env G).andThen env fun u G1 => .ret u G1 := id rfl
@[simp] theorem sRetN_ : sRetN env G = .ret .non G := id rfl
@[simp] theorem sBrk_ : sBrk env G = .brk env G := id rfl
@[simp] theorem sCt_ : sCt env G = .ct env G := id rfl
@[simp] theorem sIf_ (c : Ev → Gp → R Bool) (g1 g2 : Ev → Gp → SR) : sIf c g1 g2 env G = (c env G).andThen env fun b G1 => if b = true then g1 env G1 else g2 env G1 := id rfl
@[simp] theorem sAsg_ (f : Ev → Gp → R U) (gf : U → Ev → Gp → R Ev) : sAsg f gf env G = (f env G).andThen env fun u G1 => (gf u env G1).andThen env fun env' G2 => .nx env' G2 := id rfl
@[simp] theorem gNm_ (i : Nat) (u : U) : gNm i u env G = .ok (env.set i (some u)) G := id rfl
@[simp] theorem gNil_ : gNil [] env G = .ok env G := id rfl
@[simp] theorem gCons_ (g : U → Ev → Gp → R Ev) (gs : List U → Ev → Gp → R Ev) (u : U) (r : List U) : gCons g gs (u :: r) env G = (g u env G).bind fun env' G' => gs r env' G' := id rfl
@[simp] theorem gTup_ (gs : List U → Ev → Gp → R Ev) (n : Nat) (xs : List U) : gTup gs n (.tup xs) env G = if xs.length = n then gs xs env G else .bad := id rfl
@[simp] theorem sAug_ (i : Nat) (g : U → U → Gp → R U) (f : Ev → Gp → R U) : sAug i g f env G = (eVar i env G).andThen env fun x G0 => (f env G0).andThen env fun y G1 => (g x y G1).andThen env fun z G2 => .nx (env.set i (some z)) G2 := id rfl
@[simp] theorem eCall_ (g : List U → Gp → R U) (fa : Ev → Gp → R (List U)) : eCall g fa env G = (fa env G).bind g := id rfl
@[simp] theorem eCallK_ (F : List U → Gp → R U) (a b : Nat) (idx : List Nat) (fa fk : Ev → Gp → R (List U)) : eCallK F a b idx fa fk env G = (fa env G).bind fun us G1 => (fk env G1).bind fun ws G2 => F (gK a b idx us ws) G2 := id rfl
@[simp] theorem eSl_ (f : Ev → Gp → R U) (lo hi : Ev → Gp → R (Option Int)) : eSl f lo hi env G = (f env G).bind fun x G1 => (lo env G1).bind fun l G2 => (hi env G2).bind fun h G3 => gSl x l h G3 := id rfl
@[simp] theorem pNo_ : pNo env G = .ok none G := id rfl
@[simp] theorem pInt_ (f : Ev → Gp → R U) : pInt f env G = (f env G).bind fun u G1 => match u with
  | .int i => .ok (some i) G1
  | _ => .bad := id rfl
@[simp] theorem gSubE_ (fo fi : Ev → Gp → R U) (v : U) : gSubE fo fi v env G = (fo env G).bindN fun o G1 => (fi env G1).bindN fun i G2 => (setU o i v G2).bindN fun _ G3 => .ok env G3 := id rfl
/-- isinstance of a value -/
def isRes (tbl : List (String × Bool)) (u : U) (G : Gp) : R U := match tyN G u with
  | some n => match tbl.lookup n with
    | some b => .ok (.bl b) G
    | none => .bad
  | none => .bad
theorem isRes_of {tbl : List (String × Bool)} {u : U} {n : String} {b : Bool} (h1 : tyN G u = some n) (h2 : tbl.lookup n = some b) : isRes tbl u G = .ok (.bl b) G := by
  unfold isRes
  rw [h1]
  simp only [h2]
@[simp] theorem eIs_ (tbl : List (String × Bool)) (f : Ev → Gp → R U) : eIs tbl f env G = (f env G).bind fun u G1 => isRes tbl u G1 := id rfl
@[simp] theorem eChain_ (g g' : U → U → Gp → R U) (fa fb fc : Ev → Gp → R U) : eChain g g' fa fb fc env G = (fa env G).bind fun x G1 => (fb env G1).bind fun y G2 => (asB (g x y G2)).bind fun k G3 => if k = true then (fc env G3).bind fun z G4 => g' y z G4 else .ok (.bl false) G3 := id rfl
/-! operators on ints -/
@[simp] theorem gAdd_ii (i j : Int) : gAdd (.int i) (.int j) G = .ok (.int (i + j)) G := id rfl
@[simp] theorem gAug_ii (i j : Int) : gAugAdd (.int i) (.int j) G = .ok (.int (i + j)) G := id rfl
@[simp] theorem gSub_ii (i j : Int) : gSub (.int i) (.int j) G = .ok (.int (i - j)) G := id rfl
@[simp] theorem gNeg_i (i : Int) : gNeg (.int i) G = .ok (.int (-i)) G := id rfl
theorem gMul_ii {i j : Int} (h : mulOk i j = true) : gMul (.int i) (.int j) G = .ok (.int (i * j)) G := if_pos h
theorem gFdiv_ii {i j : Int} (h1 : 0 < j) (h2 : j.natAbs < 2 ^ 64) : gFdiv (.int i) (.int j) G = .ok (.int (i / j)) G := if_pos ⟨h1, Nat.lt_of_lt_of_le h2 (Nat.pow_le_pow_right (by decide) (by decide))⟩
theorem gMod_ii {i j : Int} (h1 : 0 < j) : gMod (.int i) (.int j) G = .ok (.int (i % j)) G := if_pos h1
@[simp] theorem gCmp_ii (p : Int → Int → Bool) (i j : Int) : gCmpI p (.int i) (.int j) G = .ok (.bl (p i j)) G := id rfl
@[simp] theorem eqU_ii (i j : Int) : eqU G (.int i) (.int j) = some (decide (i = j)) := id rfl
@[simp] theorem eqU_ss (i j : Str) : eqU G (.str i) (.str j) = some (decide (i = j)) := id rfl
@[simp] theorem eqU_bb (i j : Bool) : eqU G (.bl i) (.bl j) = some (decide (i = j)) := id rfl
@[simp] theorem gEq_ (x y : U) : gEq x y G = match eqU G x y with
  | some b => .ok (.bl b) G
  | none => .bad := id rfl
@[simp] theorem gNe_ (x y : U) : gNe x y G = match eqU G x y with
  | some b => .ok (.bl (!b)) G
  | none => .bad := id rfl
@[simp] theorem gIsN_ (x : U) : gIsN x .non G = .ok (.bl (match x with
    | .non => true
    | _ => false)) G := id rfl
@[simp] theorem gNotN_ (x : U) : gNotN x .non G = .ok (.bl (match x with
    | .non => false
    | _ => true)) G := id rfl
@[simp] theorem bInt_i (i : Int) : bInt [.int i] G = .ok (.int i) G := id rfl
@[simp] theorem bMax2_ii (i j : Int) : bMax2 [.int i, .int j] G = .ok (.int (max i j)) G := by
  show R.ok (U.int (if j > i then j else i)) G = _
  congr 2; split <;> omega
@[simp] theorem bMin2_ii (i j : Int) : bMin2 [.int i, .int j] G = .ok (.int (min i j)) G := by
  show R.ok (U.int (if j < i then j else i)) G = _
  congr 2; split <;> omega
theorem mulOk_small {i j : Int} (h : i.natAbs < 2 ^ 64) : mulOk i j = true := by
  unfold mulOk; simp [h]
theorem mulOk_small2 {i j : Int} (h : j.natAbs < 2 ^ 64) : mulOk i j = true := by
  unfold mulOk; simp [h]
theorem mulOk_bits {i j : Int} (h : Builtin.Int.intBits i ≤ 1048576) (h2 : Builtin.Int.intBits j ≤ 1048576) : mulOk i j = true := by
  unfold mulOk
  have : Builtin.Int.intBits i + Builtin.Int.intBits j ≤ 134217728 := by omega
  simp [this]
/-! sequences -/
@[simp] theorem seqU_tup (xs : List U) : seqU G (.tup xs) = some xs := id rfl
@[simp] theorem seqU_rl (xs : List U) : seqU G (.rl xs) = some xs := id rfl
@[simp] theorem seqU_ref (l : Nat) : seqU G (.ref l) = match G[l]? with
  | some (.lst xs) => some xs
  | _ => none := id rfl
theorem bLen_seq {u : U} {xs : List U} (h : seqU G u = some xs) : bLen [u] G = .ok (.int xs.length) G := by
  cases u with
  | str z => exact nomatch h
  | _ => simp only [bLen, h]
@[simp] theorem bLen_tup (xs : List U) : bLen [.tup xs] G = .ok (.int xs.length) G := id rfl
@[simp] theorem bLen_rl (xs : List U) : bLen [.rl xs] G = .ok (.int xs.length) G := id rfl
theorem bTuple_seq {u : U} {xs : List U} (h : seqU G u = some xs) : bTuple [u] G = .ok (.tup xs) G := by simp only [bTuple, h]
theorem bList_seq {u : U} {xs : List U} (h : seqU G u = some xs) : bList [u] G = .ok (.ref G.length) (G ++ [.lst xs]) := by simp only [bList, h]
theorem gIdx_seq {u : U} {xs : List U} {i : Int} {y : U} (h : seqU G u = some xs) (hi : atI xs i = some y) : gIdx u (.int i) G = .ok y G := by
  cases u with
  | str z => exact nomatch h
  | _ => simp only [gIdx, h, hi]
theorem gIdx_ref {l : Nat} {xs : List U} {i : Int} {y : U} (h : G[l]? = some (.lst xs)) (hi : atI xs i = some y) : gIdx (.ref l) (.int i) G = .ok y G := gIdx_seq (by simp only [seqU, h]) hi
theorem gIdx_tup {xs : List U} {i : Int} {y : U} (hi : atI xs i = some y) : gIdx (.tup xs) (.int i) G = .ok y G := gIdx_seq rfl hi
theorem atI_nat {α : Type} {xs : List α} {i : Nat} (h : i < xs.length) : atI xs (i : Int) = xs[i]? := by
  unfold atI ixN
  rw [if_pos (by omega), if_pos (by omega)]
  rfl
theorem atI_pos {α : Type} {xs : List α} {i : Int} {y : α} (h0 : 0 ≤ i) (h : xs[i.toNat]? = some y) : atI xs i = some y := by
  have hl := (List.getElem?_eq_some_iff.mp h).1
  unfold atI ixN
  rw [if_pos h0, if_pos (by omega)]
  exact h
theorem atI_last {α : Type} {xs : List α} {y : α} (h : xs.getLast? = some y) : atI xs (-1) = some y := by
  have hn : xs ≠ [] := fun e => by rw [e] at h; simp at h
  have hl : 0 < xs.length := List.length_pos_iff.mpr hn
  unfold atI ixN
  rw [if_neg (by omega), if_pos (by omega)]
  rw [List.getLast?_eq_getElem?] at h
  show xs[((-1 : Int) + (xs.length : Int)).toNat]? = some y
  rw [show ((-1 : Int) + (xs.length : Int)).toNat = xs.length - 1 by omega]
  exact h
theorem mAppend_ref {l : Nat} {xs : List U} {y : U} (h : G[l]? = some (.lst xs)) (hl : xs.length < 16777216) : mAppend (.ref l) [y] G = .ok .non (G.set l (.lst (xs ++ [y]))) := by
  simp only [mAppend, h, if_pos hl]
theorem isLst_ref {l : Nat} {xs : List U} (h : G[l]? = some (.lst xs)) : isLst (.ref l) G = true := by simp only [isLst, h]
theorem eMeth_ (g : U → List U → Gp → R U) (fo : Ev → Gp → R U) (fa : Ev → Gp → R (List U)) : eMeth g fo fa env G = (fo env G).bind fun o G1 => if isLst o G1 = true then (fa env G1).bind fun us G2 => g o us G2 else .bad := rfl
theorem setU_ref {l : Nat} {xs : List U} {i : Int} {v : U} (h : G[l]? = some (.lst xs)) (h0 : 0 ≤ i) (h1 : i < xs.length) : setU (.ref l) (.int i) v G = .ok () (G.set l (.lst (xs.set i.toNat v))) := by
  have e : ixN xs.length i = some i.toNat := by unfold ixN; rw [if_pos h0, if_pos h1]
  simp only [setU, h, e]
end
theorem iOfs_ok {f : Ev → Gp → R (List U)} {k : List U → Gp → Option Src} {us : List U} {G G1 : Gp} {env : Ev} {src : Src} (hf : f env G = .ok us G1) (e : k us G1 = some src) : iOfs f k env G = .ok src G1 := by
  unfold iOfs
  rw [hf, r_bind_ok, e]
theorem iOf_ok {f : Ev → Gp → R U} {k : U → Gp → Option Src} {u : U} {G G1 : Gp} {env : Ev} {src : Src} (hf : f env G = .ok u G1) (e : k u G1 = some src) : iOf f k env G = .ok src G1 := by
  unfold iOf
  rw [hf, r_bind_ok, e]
/-! a def's end -/
def fin (r : SR) : R U := match r with
  | .nx _ G' => .ok .non G'
  | .ret u G' => .ok u G'
  | .exc c fs _ G' => .exc c fs G'
  | _ => .bad
@[simp] theorem fin_nx (e : Ev) (G : Gp) : fin (.nx e G) = .ok .non G := id rfl
@[simp] theorem fin_ret (u : U) (G : Gp) : fin (.ret u G) = .ok u G := id rfl
@[simp] theorem fin_exc (c : Str) (fs : List (Str × U)) (e : Ev) (G : Gp) : fin (.exc c fs e G) = .exc c fs G := id rfl
theorem defF_eq {n m : Nat} {g : Ev → Gp → SR} {us : List U} (h : us.length = n) (G : Gp) {e : Ev} (he : startE m us = e) : defF n m g us G = fin (g e G) := by
  subst he
  unfold defF
  rw [if_pos h]
  cases g (startE m us) G <;> rfl
/-! ### loops -/
/-- what holds behind one turn -/
def after (r : SR) (N : Ev → Gp → Prop) (P : SR → Prop) : Prop := match r with
  | .nx e G => N e G
  | .ct e G => N e G
  | .brk e G => P (.nx e G)
  | r => P r
theorem forN_post {nth : Nat → Gp → Option (Option U)} {gf : U → Ev → Gp → R Ev} {body : Ev → Gp → SR} {xs : List U} (I : Nat → Ev → Gp → Prop) (P : SR → Prop)
    (hs : ∀ i env G, i ≤ xs.length → I i env G → nth i G = some xs[i]?) (step : ∀ (i : Nat) (hi : i < xs.length) (env : Ev) (G : Gp), I i env G → after ((gf xs[i] env G).andThen env fun env1 G1 => body env1 G1) (I (i + 1)) P)
    (fin : ∀ env G, I xs.length env G → P (.nx env G)) : ∀ (n i : Nat) (env : Ev) (G : Gp), xs.length < n + i → i ≤ xs.length → I i env G → P (forN nth gf body n i env G) := by
  intro n
  induction n with
  | zero => intro i env G h1 h2 _; omega
  | succ n ih =>
    intro i env G h1 h2 hI
    unfold forN
    rw [hs i env G h2 hI]
    by_cases hi : i < xs.length
    · rw [List.getElem?_eq_getElem hi]
      have st := step i hi env G hI
      simp only
      cases q : gf xs[i] env G with
      | ok e1 G1 =>
        rw [q] at st
        simp only [r_then_ok] at st ⊢
        cases qb : body e1 G1 with
        | nx e2 G2 => rw [qb] at st; exact ih (i + 1) e2 G2 (by omega) hi st
        | ct e2 G2 => rw [qb] at st; exact ih (i + 1) e2 G2 (by omega) hi st
        | brk e2 G2 => rw [qb] at st; exact st
        | ret u G2 => rw [qb] at st; exact st
        | exc c fs e2 G2 => rw [qb] at st; exact st
        | bad => rw [qb] at st; exact st
      | exc c fs G1 => rw [q] at st; exact st
      | bad => rw [q] at st; exact st
    · have e : i = xs.length := by omega
      subst e
      rw [List.getElem?_eq_none (Nat.le_refl _)]
      exact fin env G hI
/-- a source gives these items, as long as I holds -/
def Gives (src : Src) (xs : List U) (I : Nat → Ev → Gp → Prop) : Prop := xs.length < src.fuel ∧ ∀ i env G, i ≤ xs.length → I i env G → src.at_ i G = some xs[i]?
theorem gives_items {xs : List U} {I : Nat → Ev → Gp → Prop} : Gives (.items xs) xs I := ⟨Nat.lt_succ_self _, fun _ _ _ _ _ => rfl⟩
theorem sFor_post {fi : Ev → Gp → R Src} {gf : U → Ev → Gp → R Ev} {body : Ev → Gp → SR} {env : Ev} {G G1 : Gp} {src : Src} {xs : List U} (I : Nat → Ev → Gp → Prop) (P : SR → Prop) (hf : fi env G = .ok src G1) (hs : Gives src xs I) (h0 : I 0 env G1)
    (step : ∀ (i : Nat) (hi : i < xs.length) (env : Ev) (G : Gp), I i env G → after ((gf xs[i] env G).andThen env fun env1 G1 => body env1 G1) (I (i + 1)) P)
    (fin : ∀ env G, I xs.length env G → P (.nx env G)) : P (sFor fi gf body env G) := by
  unfold sFor
  rw [hf]
  simp only [r_then_ok]
  rw [sFor_run]
  exact forN_post (nth := src.nth) I P (fun i env G h1 h2 => hs.2 i env G h1 h2) step fin src.fuel 0 env G1 (by have := hs.1; omega) (Nat.zero_le _) h0
def rng (lo : Int) (n : Nat) : List U := (List.range n).map fun i => .int (lo + (i : Nat))
@[simp] theorem rng_len (lo : Int) (n : Nat) : (rng lo n).length = n := by simp [rng]
theorem rng_get {lo : Int} {n i : Nat} (h : i < (rng lo n).length) : (rng lo n)[i] = .int (lo + (i : Nat)) := by simp [rng]
theorem rng_get? (lo : Int) (n i : Nat) : (rng lo n)[i]? = if i < n then some (.int (lo + (i : Nat))) else none := by
  by_cases h : i < n
  · rw [if_pos h, List.getElem?_eq_getElem (by simpa using h), rng_get]
  · rw [if_neg h]; exact List.getElem?_eq_none (by simpa using h)
theorem p62 : (2 : Int) ^ 62 = 4611686018427387904 := by decide
theorem gives_rng1 {I : Nat → Ev → Gp → Prop} {j : Int} (h1 : -4611686018427387904 ≤ j) (h2 : j < 4611686018427387904) {G : Gp} : ∃ src, kRng1 [.int j] G = some src ∧ Gives src (rng 0 j.toNat) I :=
  ⟨.live (j.toNat + 1) fun i _ => some (if i < j.toNat then some (.int (0 + (i : Nat))) else none), if_pos ⟨by rw [p62]; exact h1, by rw [p62]; exact h2⟩, by simp [Src.fuel], fun i env G _ _ => congrArg some (rng_get? 0 j.toNat i).symm⟩
theorem gives_rng2 {I : Nat → Ev → Gp → Prop} {a j : Int} (h1 : -4611686018427387904 ≤ a) (h2 : a < 4611686018427387904) (h3 : -4611686018427387904 ≤ j) (h4 : j < 4611686018427387904) {G : Gp} : ∃ src, kRng2 [.int a, .int j] G = some src ∧ Gives src (rng a (j - a).toNat) I :=
  ⟨.live ((j - a).toNat + 1) fun i _ => some (if i < (j - a).toNat then some (.int (a + (i : Nat))) else none), if_pos ⟨by rw [p62]; exact h1, by rw [p62]; exact h2, by rw [p62]; exact h3, by rw [p62]; exact h4⟩, by simp [Src.fuel], fun i env G _ _ => congrArg some (rng_get? a (j - a).toNat i).symm⟩
theorem gives_ref {I : Nat → Ev → Gp → Prop} {l : Nat} {xs : List U} {G : Gp} (h : G[l]? = some (.lst xs)) (hI : ∀ i env G, I i env G → G[l]? = some (.lst xs)) : ∃ src, kSeq (.ref l) G = some src ∧ Gives src xs I := by
  refine ⟨.live (xs.length + 1) fun i G => match G[l]? with
    | some (.lst ys) => some ys[i]?
    | _ => none, by unfold kSeq; (simp only [h] <;> rfl), by simp [Src.fuel], fun i env G hi h2 => ?_⟩
  show (match G[l]? with
    | some (.lst ys) => some ys[i]?
    | _ => none) = _
  rw [hI i env G h2]
/-! for over written items, as a fold -/
theorem sFor_rng1 {fa : Ev → Gp → R (List U)} {gf : U → Ev → Gp → R Ev} {body : Ev → Gp → SR} {env : Ev} {G G1 : Gp} {j : Int} (I : Nat → Ev → Gp → Prop) (P : SR → Prop) (hf : fa env G = .ok [.int j] G1) (h1 : -4611686018427387904 ≤ j) (h2 : j < 4611686018427387904) (h0 : I 0 env G1)
    (step : ∀ (i : Nat) (hi : i < j.toNat) (env : Ev) (G : Gp), I i env G → after ((gf (.int (i : Nat)) env G).andThen env fun env1 G1 => body env1 G1) (I (i + 1)) P)
    (fin : ∀ env G, I j.toNat env G → P (.nx env G)) : P (sFor (iOfs fa kRng1) gf body env G) := by
  obtain ⟨src, e, g⟩ := gives_rng1 (I := I) h1 h2 (G := G1)
  refine sFor_post (src := src) (G1 := G1) I P (iOfs_ok hf e) g h0 (fun i hi env G hI => ?_) (fun env G hI => fin env G (by simpa using hI))
  rw [rng_get]
  have := step i (by simpa using hi) env G hI
  rw [show (0 : Int) + ((i : Nat) : Int) = ((i : Nat) : Int) by omega]
  exact this
theorem sFor_rng2 {fa : Ev → Gp → R (List U)} {gf : U → Ev → Gp → R Ev} {body : Ev → Gp → SR} {env : Ev} {G G1 : Gp} {a j : Int} (I : Nat → Ev → Gp → Prop) (P : SR → Prop) (hf : fa env G = .ok [.int a, .int j] G1) (h1 : -4611686018427387904 ≤ a) (h2 : a < 4611686018427387904) (h3 : -4611686018427387904 ≤ j) (h4 : j < 4611686018427387904) (h0 : I 0 env G1)
    (step : ∀ (i : Nat) (hi : i < (j - a).toNat) (env : Ev) (G : Gp), I i env G → after ((gf (.int (a + (i : Nat))) env G).andThen env fun env1 G1 => body env1 G1) (I (i + 1)) P)
    (fin : ∀ env G, I (j - a).toNat env G → P (.nx env G)) : P (sFor (iOfs fa kRng2) gf body env G) := by
  obtain ⟨src, e, g⟩ := gives_rng2 (I := I) h1 h2 h3 h4 (G := G1)
  refine sFor_post (src := src) (G1 := G1) I P (iOfs_ok hf e) g h0 (fun i hi env G hI => ?_) (fun env G hI => fin env G (by simpa using hI))
  rw [rng_get]
  exact step i (by simpa using hi) env G hI
theorem sFor_tup {f : Ev → Gp → R U} {gf : U → Ev → Gp → R Ev} {body : Ev → Gp → SR} {env : Ev} {G G1 : Gp} {xs : List U} (I : Nat → Ev → Gp → Prop) (P : SR → Prop) (hf : f env G = .ok (.tup xs) G1) (h0 : I 0 env G1)
    (step : ∀ (i : Nat) (hi : i < xs.length) (env : Ev) (G : Gp), I i env G → after ((gf xs[i] env G).andThen env fun env1 G1 => body env1 G1) (I (i + 1)) P)
    (fin : ∀ env G, I xs.length env G → P (.nx env G)) : P (sFor (iOf f kSeq) gf body env G) :=
  sFor_post (src := .items xs) (G1 := G1) I P (by simp [iOf, hf, kSeq]) gives_items h0 step fin
theorem sFor_ref {f : Ev → Gp → R U} {gf : U → Ev → Gp → R Ev} {body : Ev → Gp → SR} {env : Ev} {G G1 : Gp} {l : Nat} {xs : List U} (I : Nat → Ev → Gp → Prop) (P : SR → Prop) (hf : f env G = .ok (.ref l) G1) (hl : G1[l]? = some (.lst xs)) (hI : ∀ i env G, I i env G → G[l]? = some (.lst xs)) (h0 : I 0 env G1)
    (step : ∀ (i : Nat) (hi : i < xs.length) (env : Ev) (G : Gp), I i env G → after ((gf xs[i] env G).andThen env fun env1 G1 => body env1 G1) (I (i + 1)) P)
    (fin : ∀ env G, I xs.length env G → P (.nx env G)) : P (sFor (iOf f kSeq) gf body env G) := by
  obtain ⟨src, e, g⟩ := gives_ref (I := I) hl hI
  exact sFor_post (src := src) (G1 := G1) I P (iOf_ok hf e) g h0 step fin
/-! while: a measure -/
theorem while_post {fc : Ev → Gp → R Bool} {body : Ev → Gp → SR} (I : Ev → Gp → Prop) (m : Ev → Gp → Nat) (P : SR → Prop)
    (step : ∀ env G, I env G → ∃ b, ∃ G1, fc env G = .ok b G1 ∧ (b = true → after (body env G1) (fun e G' => I e G' ∧ m e G' < m env G) P) ∧ (b = false → P (.nx env G1))) : ∀ (n : Nat) (env : Ev) (G : Gp), I env G → m env G < n → P (whileN fc body n env G) := by
  intro n
  induction n with
  | zero => intro env G _ h; omega
  | succ n ih =>
    intro env G hI hm
    obtain ⟨b, G1, e, h1, h2⟩ := step env G hI
    unfold whileN
    rw [e]
    simp only [r_then_ok]
    cases b with
    | false => exact h2 rfl
    | true =>
      have h1 := h1 rfl
      rw [if_pos rfl]
      cases qb : body env G1 with
      | nx e2 G2 => rw [qb] at h1; exact ih e2 G2 h1.1 (by have := h1.2; omega)
      | ct e2 G2 => rw [qb] at h1; exact ih e2 G2 h1.1 (by have := h1.2; omega)
      | brk e2 G2 => rw [qb] at h1; exact h1
      | ret u G2 => rw [qb] at h1; exact h1
      | exc c fs e2 G2 => rw [qb] at h1; exact h1
      | bad => rw [qb] at h1; exact h1
/-! comprehensions -/
theorem compN_post {nth : Nat → Gp → Option (Option U)} {gf : U → Ev → Gp → R Ev} {ft : Ev → Gp → R Bool} {fe : Ev → Gp → R U} {l : Nat} {env0 : Ev} {xs : List U} (I : Nat → List U → Gp → Prop) (P : R U → Prop)
    (hs : ∀ i acc G, i ≤ xs.length → I i acc G → nth i G = some xs[i]?) (hlen : xs.length < 16777216)
    (step : ∀ (i : Nat) (hi : i < xs.length) (acc : List U) (G : Gp), I i acc G → G[l]? = some (.lst acc) → ∃ env1 G1 b G2, gf xs[i] env0 G = .ok env1 G1 ∧ ft env1 G1 = .ok b G2 ∧ (b = true → ∃ y G3, fe env1 G2 = .ok y G3 ∧ G3[l]? = some (.lst acc) ∧ I (i + 1) (acc ++ [y]) (G3.set l (.lst (acc ++ [y])))) ∧ (b = false → G2[l]? = some (.lst acc) ∧ I (i + 1) acc G2))
    (fin : ∀ acc G, acc.length ≤ xs.length → I xs.length acc G → G[l]? = some (.lst acc) → P (.ok (.ref l) G)) : ∀ (n i : Nat) (acc : List U) (G : Gp), xs.length < n + i → i ≤ xs.length → acc.length ≤ i → I i acc G → G[l]? = some (.lst acc) → P (compN nth gf ft fe l env0 n i G) := by
  intro n
  induction n with
  | zero => intro i acc G h1 h2 _ _ _; omega
  | succ n ih =>
    intro i acc G h1 h2 ha hI hl
    unfold compN
    rw [hs i acc G h2 hI]
    by_cases hi : i < xs.length
    · rw [List.getElem?_eq_getElem hi]
      obtain ⟨env1, G1, b, G2, e1, e2, h3, h4⟩ := step i hi acc G hI hl
      simp only [e1, e2, r_bindN_ok]
      cases b with
      | false =>
        obtain ⟨h5, h6⟩ := h4 rfl
        rw [if_neg (by decide)]
        exact ih (i + 1) acc G2 (by omega) hi (by omega) h6 h5
      | true =>
        obtain ⟨y, G3, e3, h5, h6⟩ := h3 rfl
        rw [if_pos rfl]
        simp only [e3, r_bindN_ok, h5]
        rw [if_pos (by omega)]
        refine ih (i + 1) (acc ++ [y]) _ (by omega) hi (by simp; omega) h6 ?_
        rw [List.getElem?_set_self (List.getElem?_eq_some_iff.mp h5).1]
    · have e : i = xs.length := by omega
      subst e
      rw [List.getElem?_eq_none (Nat.le_refl _)]
      exact fin acc G ha hI hl
theorem eComp_post {own : List Nat} {fi : Ev → Gp → R Src} {gf : U → Ev → Gp → R Ev} {ft : Ev → Gp → R Bool} {fe : Ev → Gp → R U} {env : Ev} {G G1 : Gp} {src : Src} {xs : List U} (I : Nat → List U → Gp → Prop) (P : R U → Prop) (hf : fi env G = .ok src G1)
    (hs : xs.length < src.fuel ∧ ∀ i acc G, i ≤ xs.length → I i acc G → src.at_ i G = some xs[i]?) (hlen : xs.length < 16777216) (h0 : I 0 [] (G1 ++ [.lst []]))
    (step : ∀ (i : Nat) (hi : i < xs.length) (acc : List U) (G : Gp), I i acc G → G[G1.length]? = some (.lst acc) → ∃ env1 G1' b G2, gf xs[i] (wipeE env own) G = .ok env1 G1' ∧ ft env1 G1' = .ok b G2 ∧ (b = true → ∃ y G3, fe env1 G2 = .ok y G3 ∧ G3[G1.length]? = some (.lst acc) ∧ I (i + 1) (acc ++ [y]) (G3.set G1.length (.lst (acc ++ [y])))) ∧ (b = false → G2[G1.length]? = some (.lst acc) ∧ I (i + 1) acc G2))
    (fin : ∀ acc G, acc.length ≤ xs.length → I xs.length acc G → G[G1.length]? = some (.lst acc) → P (.ok (.ref G1.length) G)) : P (eComp own fi gf ft fe env G) := by
  unfold eComp
  rw [hf]
  simp only [r_bind_ok]
  rw [eComp_run]
  exact compN_post (nth := src.nth) I P (fun i acc G h1 h2 => hs.2 i acc G h1 h2) hlen step fin src.fuel 0 [] _ (by have := hs.1; omega) (Nat.zero_le _) (Nat.le_refl _) h0 (by simp)
/-! equal lists of ints -/
def dInts (ns : List Int) : List PyData := ns.map PyData.int
theorem toD_ints (n : Nat) (G : Gp) : ∀ ns : List Int, optAll (toD G n) (ns.map U.int) = some (dInts ns)
  | [] => rfl
  | i :: r => by
    have h : toD G n (.int i) = some (.int i) := by cases n <;> rfl
    rw [List.map_cons]
    unfold optAll
    rw [h, toD_ints n G r]
    rfl
theorem lay_ints : ∀ ns : List Int, PyData.canLayAll0 (dInts ns) = true
  | [] => by simp [dInts, PyData.canLayAll0]
  | i :: r => by
    have := lay_ints r
    unfold dInts at *
    simp [PyData.canLayAll0, PyData.canLay0, this]
theorem depth_ints : ∀ ns : List Int, PyData.depthAll (dInts ns) = 0
  | [] => by simp [dInts, PyData.depthAll]
  | i :: r => by
    have := depth_ints r
    unfold dInts at *
    simp [PyData.depthAll, PyData.depth, this]
theorem eqv_ints : ∀ ns ms : List Int, PyData.eqvAll (dInts ns) (dInts ms) = decide (ns = ms)
  | [], [] => by simp [dInts, PyData.eqvAll]
  | [], _ :: _ => by simp [dInts, PyData.eqvAll]
  | _ :: _, [] => by simp [dInts, PyData.eqvAll]
  | i :: r, j :: s => by
    have := eqv_ints r s
    unfold dInts at *
    simp only [List.map_cons, PyData.eqvAll, PyData.eqv, this, List.cons.injEq, Bool.decide_and]
    congr 1
theorem shaped_list (ns : List Int) : SeqAt.shaped (.list (dInts ns)) = true := by
  unfold SeqAt.shaped
  simp [PyData.canLay0, lay_ints, PyData.depth, depth_ints]
theorem shaped_tup (ns : List Int) : SeqAt.shaped (.tuple (dInts ns)) = true := by
  unfold SeqAt.shaped
  simp [PyData.canLay0, lay_ints, PyData.depth, depth_ints]
theorem eqU_refs {G : Gp} {l m : Nat} {ns ms : List Int} (h1 : G[l]? = some (.lst (ns.map .int))) (h2 : G[m]? = some (.lst (ms.map .int))) : eqU G (.ref l) (.ref m) = some (decide (ns = ms)) := by
  have e1 : toD G 40 (.ref l) = some (.list (dInts ns)) := by
    show (match G[l]? with
      | some (.lst xs) => (optAll (toD G 39) xs).map PyData.list
      | _ => none) = _
    rw [h1]; simp only [toD_ints]; rfl
  have e2 : toD G 40 (.ref m) = some (.list (dInts ms)) := by
    show (match G[m]? with
      | some (.lst xs) => (optAll (toD G 39) xs).map PyData.list
      | _ => none) = _
    rw [h2]; simp only [toD_ints]; rfl
  show (match toD G 40 (.ref l), toD G 40 (.ref m) with
    | some d, some e => if SeqAt.shaped d = true ∧ SeqAt.shaped e = true then some (PyData.eqv d e) else none
    | _, _ => none) = _
  rw [e1, e2]
  simp only [shaped_list, and_self, if_true, PyData.eqv, eqv_ints]
end FL

set_option Elab.async false
set_option linter.all false
set_option maxRecDepth 100000
set_option maxHeartbeats 4000000
set_option autoImplicit false
/-! all, any of a list of bools; list.insert -/
namespace FL
open PySem PySem.Spec L2
def boolsU : List U → Option (List Bool)
  | [] => some []
  | .bl b :: r => (boolsU r).map (b :: ·)
  | _ => none
theorem boolsU_map : ∀ l : List Bool, boolsU (l.map .bl) = some l
  | [] => rfl
  | x :: r => by rw [List.map_cons]; unfold boolsU; rw [boolsU_map r]; rfl
def bBools (g : List Bool → Bool) (us : List U) (G : Gp) : R U := match us with
  | [.ref l] => match G[l]? with
    | some (.lst xs) => match boolsU xs with
      | some bs => .ok (.bl (g bs)) G
      | none => .bad
    | _ => .bad
  | _ => .bad
abbrev bAll := bBools (fun bs => bs.all id)
abbrev bAny := bBools (fun bs => bs.any id)
theorem bBools_ref {g : List Bool → Bool} {l : Nat} {bs : List Bool} {G : Gp} (h : G[l]? = some (.lst (bs.map .bl))) : bBools g [.ref l] G = .ok (.bl (g bs)) G := by
  unfold bBools
  simp only [h, boolsU_map]
section
variable {K : KZ}
theorem boolsU_rel {ρ : List Addr} {H : Hp} : ∀ {xs : List U} {vs : List V} {bs : List Bool}, RUs K ρ H xs vs → boolsU xs = some bs → vs = bs.map V.bl
  | _, _, bs, .nil, h => by cases h; rfl
  | _, _, bs, .cons (x := x) (xs := xs) hx ht, h => by
    cases hx with
    | bl i =>
      unfold boolsU at h
      cases q : boolsU xs with
      | none => rw [q] at h; exact nomatch h
      | some ms =>
        rw [q] at h
        cases h
        rw [boolsU_rel ht q]; rfl
    | _ => exact nomatch h
theorem bBools_ok {g : List Bool → Bool} {ρ : List Addr} {G : Gp} {H : Hp} {us : List U} {vs : List V} {Q : VK} {E : XK} (S : Sim K ρ G H) (r : RUs K ρ H us vs) (h : Post K (RU K) ρ H (bBools g us G) Q E) :
    ∃ (a : Addr) (bs : List Bool), vs = [.ref a] ∧ SqL K.K H a (bs.map V.bl) ∧ Q (.bl (g bs)) H := by
  unfold bBools at h
  split at h
  · rename_i l
    obtain ⟨v, rfl, rv⟩ := r.one
    cases rv with
    | @ref _ a ha =>
      cases q : G[l]? with
      | none => rw [q] at h; exact h.elim
      | some o =>
        rw [q] at h
        cases o with
        | lst xs =>
          simp only at h
          cases q2 : boolsU xs with
          | none => rw [q2] at h; exact h.elim
          | some bs =>
            rw [q2] at h
            obtain ⟨ws, e1, r1⟩ := S.list ha q
            have e := boolsU_rel r1 q2
            subst e
            exact ⟨a, bs, rfl, SqL.of e1, h.end_ S (.bl _)⟩
        | _ => exact h.elim
  · exact h.elim
theorem oAll : OpN K (rAll K.K) bAll := by
  intro ρ G H us vs Q E S r h
  exact bBools_ok S r h
theorem oAny : OpN K (rAny K.K) bAny := by
  intro ρ G H us vs Q E S r h
  exact bBools_ok S r h
def rInsert : V → List V → Hp → VK → Prop := fun x vs H Q => ∃ (l : Addr) (xs : List V) (i : Int) (y : V), x = .ref l ∧ vs = [.int i, y] ∧ H l = some (.lst xs) ∧ xs.length < sizeLine ∧ 0 ≤ i ∧ i < 2 ^ 63 ∧
    Q .non (upd H l (.lst (xs.take i.toNat ++ [y] ++ xs.drop i.toNat)))
def mInsert (x : U) (us : List U) (G : Gp) : R U := match x, us with
  | .ref l, [.int i, y] => if 0 ≤ i ∧ i < 2 ^ 63 then match G[l]? with
    | some (.lst xs) => if xs.length < 16777216 then .ok .non (G.set l (.lst (xs.take i.toNat ++ [y] ++ xs.drop i.toNat))) else .bad
    | _ => .bad
    else .bad
  | _, _ => .bad
theorem mInsert_ref {l : Nat} {xs : List U} {y : U} {i : Int} {G : Gp} (h : G[l]? = some (.lst xs)) (h0 : 0 ≤ i) (h1 : i < 2 ^ 63) (hl : xs.length < 16777216) : mInsert (.ref l) [.int i, y] G = .ok .non (G.set l (.lst (xs.take i.toNat ++ [y] ++ xs.drop i.toNat))) := by
  unfold mInsert
  simp only [if_pos (And.intro h0 h1), h, if_pos hl]
theorem oInsert : OpM K rInsert mInsert := by
  intro ρ G H x v us vs Q E S rx rs h
  unfold mInsert at h
  split at h
  · rename_i l i y
    by_cases hi : 0 ≤ i ∧ i < 2 ^ 63
    · rw [if_pos hi] at h
      cases rx with
      | @ref _ a ha =>
        obtain ⟨w0, w1, rfl, rw0, rw1⟩ := rs.two
        cases rw0
        cases q : G[l]? with
        | none => rw [q] at h; exact h.elim
        | some o =>
          rw [q] at h
          cases o with
          | lst xs =>
            obtain ⟨ws, e, r⟩ := S.list ha q
            simp only at h
            by_cases hl : xs.length < 16777216
            · rw [if_pos hl] at h
              exact ⟨a, ws, i, w1, rfl, rfl, e, by rw [← r.len, line_eq]; exact hl, hi.1, hi.2, updEnd (xs := xs) S ha e (((r.take i.toNat).append (.cons rw1 .nil)).append (r.drop i.toNat)) .non h⟩
            · rw [if_neg hl] at h; exact h.elim
          | _ => exact h.elim
    · rw [if_neg hi] at h; exact h.elim
  · exact h.elim
end
section
variable {X : Cx} {Z : ZZ X.K} {W : WX} {e : Expr} {fa : Ev → Gp → R (List U)} {p pos : Pos}
theorem mtInsert : MtR X "list.insert" rInsert := mt_insert
theorem fall (hc : X.calm = true) (hm : X.mg "all" = none) (ha : FA X Z W [e] fa) (hg : Gl X "all" := by rfl) (he : starEach [e] X.env = (false, eval e X.env) :: starEach [] X.env := by rfl) (hpl : (backTo pos (starEach [] X.env)).any (·.1) = false := by rfl) : FE X Z W (.Call (.Name "all" p) [e] [] pos) (eCall bAll fa) :=
  fcallB oAll (cr_all hc) hg hm (by decide +kernel) ha (by decide) (by decide) he hpl
theorem fany (hc : X.calm = true) (hm : X.mg "any" = none) (ha : FA X Z W [e] fa) (hg : Gl X "any" := by rfl) (he : starEach [e] X.env = (false, eval e X.env) :: starEach [] X.env := by rfl) (hpl : (backTo pos (starEach [] X.env)).any (·.1) = false := by rfl) : FE X Z W (.Call (.Name "any" p) [e] [] pos) (eCall bAny fa) :=
  fcallB oAny (cr_any hc) hg hm (by decide +kernel) ha (by decide) (by decide) he hpl
end
end FL

set_option Elab.async false
set_option linter.all false
set_option maxRecDepth 100000
set_option maxHeartbeats 4000000
set_option autoImplicit false
/-! is True, is False; list(range(..)), tuple(range(..)) -/
namespace FL
open PySem PySem.Spec L2
def gIsB (x y : U) (G : Gp) : R U := match x, y with
  | .bl a, .bl b => .ok (.bl (decide (a = b))) G
  | _, _ => .bad
def gNotB (x y : U) (G : Gp) : R U := match x, y with
  | .bl a, .bl b => .ok (.bl (!decide (a = b))) G
  | _, _ => .bad
@[simp] theorem gIsB_ (a b : Bool) (G : Gp) : gIsB (.bl a) (.bl b) G = .ok (.bl (decide (a = b))) G := id rfl
@[simp] theorem gNotB_ (a b : Bool) (G : Gp) : gNotB (.bl a) (.bl b) G = .ok (.bl (!decide (a = b))) G := id rfl
def rgI (a b : Int) : List Int := (List.range (b - a).toNat).map fun i => a + (i : Nat)
def rgOk (a b : Int) : Prop := -(2 ^ 62) ≤ a ∧ a < 2 ^ 62 ∧ -(2 ^ 62) ≤ b ∧ b < 2 ^ 62 ∧ (b - a).toNat ≤ 2 ^ 24
instance (a b : Int) : Decidable (rgOk a b) := by unfold rgOk; infer_instance
def gRgL (x y : U) (G : Gp) : R U := match x, y with
  | .int a, .int b => if rgOk a b then .ok (.ref G.length) (G ++ [.lst ((rgI a b).map .int)]) else .bad
  | _, _ => .bad
theorem gRgL_ok {a b : Int} {G : Gp} (h1 : -1000000 ≤ a) (h2 : a < 1000000) (h3 : -1000000 ≤ b) (h4 : b < 1000000) : gRgL (.int a) (.int b) G = .ok (.ref G.length) (G ++ [.lst ((rgI a b).map .int)]) := by
  have e62 : (2 : Int) ^ 62 = 4611686018427387904 := by decide
  have e24 : 2 ^ 24 = 16777216 := by decide
  exact if_pos ⟨by rw [e62]; omega, by rw [e62]; omega, by rw [e62]; omega, by rw [e62]; omega, by rw [e24]; omega⟩
section
variable {K : KZ}
theorem o2IsB : Op2 K (fun x y H Q => ∃ a b, x = .bl a ∧ y = .bl b ∧ Q (.bl (decide (a = b))) H) gIsB := by
  intro ρ G H x y v w Q E S rx ry h
  cases rx with
  | bl a =>
    cases ry with
    | bl b => exact ⟨a, b, rfl, rfl, h.end_ S (.bl _)⟩
    | _ => exact h.elim
  | _ => cases ry <;> exact h.elim
theorem o2NotB : Op2 K (fun x y H Q => ∃ a b, x = .bl a ∧ y = .bl b ∧ Q (.bl (!decide (a = b))) H) gNotB := by
  intro ρ G H x y v w Q E S rx ry h
  cases rx with
  | bl a =>
    cases ry with
    | bl b => exact ⟨a, b, rfl, rfl, h.end_ S (.bl _)⟩
    | _ => exact h.elim
  | _ => cases ry <;> exact h.elim
theorem rgV_eq (a b : Int) : rgV a b = (rgI a b).map V.int := by
  unfold rgV rgI
  rw [List.map_map]
  rfl
end
section
variable {X : Cx} {Z : ZZ X.K} {W : WX} {a b : Expr} {fa fb : Ev → Gp → R U} {p q pos pos2 : Pos}
theorem fisB (ha : FE X Z W a fa) (hb : FE X Z W b fb) : FE X Z W (.Compare a [.Is] [b] pos) (eBin gIsB fa fb) := fcmp o2IsB op_is_bl ha hb (nomark _)
theorem fnotB (ha : FE X Z W a fa) (hb : FE X Z W b fb) : FE X Z W (.Compare a [.IsNot] [b] pos) (eBin gNotB fa fb) := fcmp o2NotB op_isnot_bl ha hb (nomark _)
theorem tisB (ha : FE X Z W a fa) (hb : FE X Z W b fb) : FT X Z W (.Compare a [.Is] [b] pos) (bVal (eBin gIsB fa fb)) := ft_cmp o2IsB op_is_bl ha hb (nomark _)
theorem tnotB (ha : FE X Z W a fa) (hb : FE X Z W b fb) : FT X Z W (.Compare a [.IsNot] [b] pos) (bVal (eBin gNotB fa fb)) := ft_cmp o2NotB op_isnot_bl ha hb (nomark _)
theorem flistRg2 (hc : X.calm = true) (hml : X.mg "list" = none) (hmr : X.mg "range" = none) (ha : FE X Z W a fa) (hb : FE X Z W b fb) (hgl : Gl X "list" := by rfl) (hgr : Gl X "range" := by rfl)
    (na : starEach [.Call (.Name "range" q) [a, b] [] pos2] X.env = (false, eval (.Call (.Name "range" q) [a, b] [] pos2) X.env) :: starEach [] X.env := by rfl)
    (na2 : starEach [a, b] X.env = (false, eval a X.env) :: starEach [b] X.env := by rfl) (nb : starEach [b] X.env = (false, eval b X.env) :: starEach [] X.env := by rfl) (hp : (backTo pos2 (starEach [b] X.env)).any (·.1) = false := by rfl) :
    FE X Z W (.Call (.Name "list" p) [.Call (.Name "range" q) [a, b] [] pos2] [] pos) (eBin gRgL fa fb) := by
  refine PEimp (pe_listRg hc hgl hml (prg_2 hgr hmr ha hb na2 nb hp) na) fun σ H Q ⟨ρ, G, env, S, e, h⟩ => ?_
  refine tG_mono (step S e h) fun v H1 ⟨ρ1, G1, x, p1, s1, S1, e1, r1, h1⟩ => ?_
  refine tG_mono (step S1 e1 h1) fun w H2 ⟨ρ2, G2, y, p2, s2, S2, e2, r2, h2⟩ => ?_
  have r1 := r1.mono p2 s2
  cases r1 with
  | int i =>
    cases r2 with
    | int j =>
      have h2 : Post _ _ _ _ (if rgOk i j then R.ok (U.ref G2.length) (G2 ++ [.lst ((rgI i j).map .int)]) else .bad) _ _ := h2
      by_cases hr : rgOk i j
      · rw [if_pos hr] at h2
        refine ⟨i, j, rfl, rfl, hr, ?_⟩
        rw [rgV_eq]
        exact newLst S2 (RUs.ints _) h2
      · rw [if_neg hr] at h2; exact h2.elim
    | _ => exact h2.elim
  | _ => cases r2 <;> exact h2.elim
end
end FL

set_option Elab.async false
set_option linter.all false
set_option maxRecDepth 100000
set_option maxHeartbeats 8000000
set_option autoImplicit false

namespace K09
open PySem PySem.Spec L2 FL
set_option maxRecDepth 100000
def exT : List (Str × List Str) := [("InvalidNumber", ["InvalidNumber", "DealError"]), ("InvalidRow", ["InvalidRow", "DealError"])]
def g__law_draws_1 : Ev → Gp → SR := (sSeq (sExpr (eMeth mAppend (eVar 1) (aCons (eBin gMod (eCall bInt (aCons (eVar 4) aNil)) (eC (.int 1000000))) aNil))) (sAsg (eBin gFdiv (eVar 4) (eC (.int 1000000))) (gNm 4)))
def g__law_draws_2 : Ev → Gp → SR := (sIf (bVal (eBin gGt (eVar 4) (eC (.int 0)))) g__law_draws_1 sNil)
def g__law_draws_3 : Ev → Gp → SR := (sSeq (sAsg (eCall bInt (aCons (eVar 3) aNil)) (gNm 4)) (sFor (iOfs (aCons (eC (.int 60)) aNil) kRng1) (gNm 5) g__law_draws_2))
def g__law_draws_4 : Ev → Gp → SR := (sSeq (sAsg (eBin gMod (eCall bInt (aCons (eBin gAdd (eBin gAdd (eBin gAdd (eBin gMul (eVar 3) (eVar 3)) (eVar 3)) (eBin gMul (eVar 2) (eC (.int 48271)))) (eC (.int 12345))) aNil)) (eC (.int 1000000007))) (gNm 2)) (sSeq (sAsg (eBin gMod (eCall bInt (aCons (eBin gAdd (eBin gMul (eVar 2) (eVar 2)) (eC (.int 69621))) aNil)) (eC (.int 998244353))) (gNm 2)) (sExpr (eMeth mAppend (eVar 1) (aCons (eVar 2) aNil)))))
def g__law_draws_5 : Ev → Gp → SR := (sIf (bVal (eBin gGe (eVar 3) (eBin gPow (eC (.int 10)) (eC (.int 18))))) g__law_draws_3 g__law_draws_4)
def g__law_draws_6 : Ev → Gp → SR := (sSeq (sAsg (eBin gMod (eCall bInt (aCons (eBin gAdd (eBin gAdd (eBin gAdd (eBin gMul (eVar 2) (eVar 2)) (eBin gMul (eC (.int 69621)) (eVar 5))) (eCall bLen (aCons (eVar 1) aNil))) (eC (.int 31))) aNil)) (eC (.int 1000000007))) (gNm 2)) (sExpr (eMeth mAppend (eVar 1) (aCons (eVar 2) aNil))))
def g__law_draws : Ev → Gp → SR := (sSeq (sAsg (eLst aNil) (gNm 1)) (sSeq (sAsg (eC (.int 97)) (gNm 2)) (sSeq (sFor (iOf (eSl (eVar 0) pNo (pInt (eC (.int 63)))) kSeq) (gNm 3) g__law_draws_5) (sSeq (sFor (iOfs (aCons (eC (.int 16)) aNil) kRng1) (gNm 5) g__law_draws_6) (sRet (eVar 1))))))
def F__law_draws : List U → Gp → R U := defF 1 6 g__law_draws
theorem ar__law_draws : Ar 1 F__law_draws := ar_defF
theorem run__law_draws (x0 : U) (G : Gp) : F__law_draws [x0] G = fin (g__law_draws [some x0, none, none, none, none, none] G) := defF_eq rfl G rfl
def g__law_next : Ev → Gp → SR := (sSeq (sAsg (eMeth mPopAt (eVar 0) (aCons (eC (.int 0)) aNil)) (gNm 2)) (sSeq (sExpr (eMeth mAppend (eVar 0) (aCons (eBin gMod (eCall bInt (aCons (eBin gAdd (eBin gAdd (eBin gMul (eVar 2) (eVar 2)) (eBin gMul (eBin gIdx (eVar 0) (eUn gNeg (eC (.int 1)))) (eC (.int 48271)))) (eC (.int 12345))) aNil)) (eC (.int 1000000007))) aNil))) (sRet (eBin gMod (eCall bInt (aCons (eVar 2) aNil)) (eVar 1)))))
def F__law_next : List U → Gp → R U := defF 2 3 g__law_next
theorem ar__law_next : Ar 2 F__law_next := ar_defF
theorem run__law_next (x0 x1 : U) (G : Gp) : F__law_next [x0, x1] G = fin (g__law_next [some x0, some x1, none] G) := defF_eq rfl G rfl
def g__law_prices_1 : Ev → Gp → SR := (sAsg (eBin gAdd (eC (.int 10)) (eCall F__law_next (aCons (eVar 0) (aCons (eC (.int 5)) aNil)))) (gNm 1))
def g__law_prices_2 : Ev → Gp → SR := (sSeq (sAsg (eBin gAdd (eC (.int 1)) (eCall F__law_next (aCons (eVar 0) (aCons (eC (.int 20)) aNil)))) (gNm 3)) (sRet (eComp [5] (iOfs (aCons (eVar 1) aNil) kRng1) (gNm 5) tYesB (eVar 3))))
def g__law_prices : Ev → Gp → SR := (sSeq (sAsg (eBin gAdd (eC (.int 1)) (eCall F__law_next (aCons (eVar 0) (aCons (eC (.int 9)) aNil)))) (gNm 1)) (sSeq (sIf (bVal (eBin gEq (eCall F__law_next (aCons (eVar 0) (aCons (eC (.int 4)) aNil))) (eC (.int 0)))) g__law_prices_1 sNil) (sSeq (sAsg (eCall F__law_next (aCons (eVar 0) (aCons (eC (.int 4)) aNil))) (gNm 2)) (sSeq (sIf (bVal (eBin gEq (eVar 2) (eC (.int 3)))) g__law_prices_2 sNil) (sSeq (sAsg (eBin gIdx (eTup (aCons (eC (.int 3)) (aCons (eC (.int 8)) (aCons (eC (.int 20)) aNil)))) (eVar 2)) (gNm 4)) (sRet (eComp [5] (iOfs (aCons (eVar 1) aNil) kRng1) (gNm 5) tYesB (eBin gAdd (eC (.int 1)) (eCall F__law_next (aCons (eVar 0) (aCons (eVar 4) aNil)))))))))))
def F__law_prices : List U → Gp → R U := defF 1 6 g__law_prices
theorem ar__law_prices : Ar 1 F__law_prices := ar_defF
theorem run__law_prices (x0 : U) (G : Gp) : F__law_prices [x0] G = fin (g__law_prices [some x0, none, none, none, none, none] G) := defF_eq rfl G rfl
def g__law_heaps_1 : Ev → Gp → SR := (sExpr (eMeth mAppend (eVar 1) (aCons (eBin gAdd (eBin gIdx (eVar 1) (eUn gNeg (eC (.int 1)))) (eVar 2)) aNil)))
def g__law_heaps : Ev → Gp → SR := (sSeq (sAsg (eLst (aCons (eC (.int 0)) aNil)) (gNm 1)) (sSeq (sFor (iOf (eVar 0) kSeq) (gNm 2) g__law_heaps_1) (sRet (eVar 1))))
def F__law_heaps : List U → Gp → R U := defF 1 3 g__law_heaps
theorem ar__law_heaps : Ar 1 F__law_heaps := ar_defF
theorem run__law_heaps (x0 : U) (G : Gp) : F__law_heaps [x0] G = fin (g__law_heaps [some x0, none, none] G) := defF_eq rfl G rfl
def g__law_rest_1 : Ev → Gp → SR := (sSeq (sAsg (eComp [7] (iOfs (aCons (eBin gAdd (eVar 5) (eC (.int 1))) (aCons (eBin gAdd (eBin gSub (eVar 1) (eVar 3)) (eC (.int 2))) aNil)) kRng2) (gNm 7) tYesB (eCall bMax2 (aCons (eBin gSub (eBin gIdx (eVar 0) (eVar 7)) (eBin gIdx (eVar 0) (eVar 5))) (aCons (eBin gIdx (eBin gIdx (eVar 2) (eBin gSub (eVar 3) (eC (.int 1)))) (eVar 7)) aNil)))) (gNm 6)) (sExpr (eMeth mAppend (eVar 4) (aCons (eCall bMin (aCons (eVar 6) aNil)) aNil))))
def g__law_rest_2 : Ev → Gp → SR := (sSeq (sAsg (eLst aNil) (gNm 4)) (sSeq (sFor (iOfs (aCons (eBin gAdd (eBin gSub (eVar 1) (eVar 3)) (eC (.int 1))) aNil) kRng1) (gNm 5) g__law_rest_1) (sExpr (eMeth mAppend (eVar 2) (aCons (eVar 4) aNil)))))
def g__law_rest : Ev → Gp → SR := (sSeq (sAsg (eBin gSub (eCall bLen (aCons (eVar 0) aNil)) (eC (.int 1))) (gNm 1)) (sSeq (sAsg (eLst (aCons (eLst aNil) (aCons (eComp [5] (iOfs (aCons (eVar 1) aNil) kRng1) (gNm 5) tYesB (eBin gSub (eBin gIdx (eVar 0) (eVar 1)) (eBin gIdx (eVar 0) (eVar 5)))) aNil))) (gNm 2)) (sSeq (sFor (iOfs (aCons (eC (.int 2)) (aCons (eBin gAdd (eVar 1) (eC (.int 1))) aNil)) kRng2) (gNm 3) g__law_rest_2) (sRet (eVar 2)))))
def F__law_rest : List U → Gp → R U := defF 1 8 g__law_rest
theorem ar__law_rest : Ar 1 F__law_rest := ar_defF
theorem run__law_rest (x0 : U) (G : Gp) : F__law_rest [x0] G = fin (g__law_rest [some x0, none, none, none, none, none, none, none] G) := defF_eq rfl G rfl
def g__law_first_1 : Ev → Gp → SR := (sSeq (sAsg (eBin gSub (eBin gSub (eVar 2) (eC (.int 1))) (eVar 7)) (gNm 8)) (sSeq (sAsg (eComp [10] (iOfs (aCons (eBin gAdd (eVar 6) (eC (.int 1))) (aCons (eBin gAdd (eBin gSub (eVar 4) (eVar 8)) (eC (.int 1))) aNil)) kRng2) (gNm 10) (bVal (eBin gLe (eCall bMax2 (aCons (eBin gSub (eBin gIdx (eVar 0) (eVar 10)) (eBin gIdx (eVar 0) (eVar 6))) (aCons (eBin gIdx (eBin gIdx (eVar 1) (eVar 8)) (eVar 10)) aNil))) (eVar 3))) (eVar 10)) (gNm 9)) (sSeq (sAsg (eBin gIdx (eVar 9) (eC (.int 0))) (gNm 6)) (sExpr (eMeth mAppend (eVar 5) (aCons (eVar 6) aNil))))))
def g__law_first : Ev → Gp → SR := (sSeq (sAsg (eBin gIdx (eBin gIdx (eVar 1) (eVar 2)) (eC (.int 0))) (gNm 3)) (sSeq (sAsg (eBin gSub (eCall bLen (aCons (eVar 0) aNil)) (eC (.int 1))) (gNm 4)) (sSeq (sAsg (eLst aNil) (gNm 5)) (sSeq (sAsg (eC (.int 0)) (gNm 6)) (sSeq (sFor (iOfs (aCons (eBin gSub (eVar 2) (eC (.int 1))) aNil) kRng1) (gNm 7) g__law_first_1) (sRet (eCall bTuple (aCons (eVar 5) aNil))))))))
def F__law_first : List U → Gp → R U := defF 3 11 g__law_first
theorem ar__law_first : Ar 3 F__law_first := ar_defF
theorem run__law_first (x0 x1 x2 : U) (G : Gp) : F__law_first [x0, x1, x2] G = fin (g__law_first [some x0, some x1, some x2, none, none, none, none, none, none, none, none] G) := defF_eq rfl G rfl
def g__law_begins_1 : Ev → Gp → SR := (sSeq (sAsg (eCall bMax2 (aCons (eBin gIdx (eVar 3) (eVar 7)) (aCons (eVar 6) aNil))) (gNm 8)) (sSeq (sExpr (eMeth mAppend (eVar 5) (aCons (eVar 8) aNil))) (sAsg (eBin gAdd (eVar 8) (eVar 4)) (gNm 6))))
def g__law_begins_2 : Ev → Gp → SR := (sSeq (sAsg (eLst aNil) (gNm 5)) (sSeq (sAsg (eC (.int 0)) (gNm 6)) (sSeq (sFor (iOfs (aCons (eVar 1) aNil) kRng1) (gNm 7) g__law_begins_1) (sSeq (sExpr (eMeth mAppend (eVar 2) (aCons (eCall bTuple (aCons (eVar 5) aNil)) aNil))) (sAsg (eComp [8] (iOf (eVar 5) kSeq) (gNm 8) tYesB (eBin gAdd (eVar 8) (eVar 4))) (gNm 3))))))
def g__law_begins : Ev → Gp → SR := (sSeq (sAsg (eLst aNil) (gNm 2)) (sSeq (sAsg (eComp [7] (iOfs (aCons (eVar 1) aNil) kRng1) (gNm 7) tYesB (eC (.int 0))) (gNm 3)) (sSeq (sFor (iOf (eVar 0) kSeq) (gNm 4) g__law_begins_2) (sRet (eCall bTuple (aCons (eVar 2) aNil))))))
def F__law_begins : List U → Gp → R U := defF 2 9 g__law_begins
theorem ar__law_begins : Ar 2 F__law_begins := ar_defF
theorem run__law_begins (x0 x1 : U) (G : Gp) : F__law_begins [x0, x1] G = fin (g__law_begins [some x0, some x1, none, none, none, none, none, none, none] G) := defF_eq rfl G rfl
def g__law_paper_1 : Ev → Gp → SR := (sIf (tAndB (bVal (eBin gLt (eVar 6) (eBin gSub (eCall bLen (aCons (eVar 0) aNil)) (eC (.int 1))))) (bVal (eBin gLt (eBin gSub (eBin gIdx (eVar 0) (eVar 6)) (eBin gIdx (eVar 0) (eVar 4))) (eVar 2)))) (sAsg (eBin gAdd (eVar 6) (eC (.int 1))) (gNm 6)) sNil)
def g__law_paper_2 : Ev → Gp → SR := (sSeq (sAsg (eBin gAdd (eVar 4) (eC (.int 1))) (gNm 6)) (sSeq (sFor (iOfs (aCons (eCall bLen (aCons (eVar 0) aNil)) aNil) kRng1) (gNm 7) g__law_paper_1) (sSeq (sExpr (eMeth mAppend (eVar 3) (aCons (eTup (aCons (eVar 4) (aCons (eVar 6) aNil))) aNil))) (sAsg (eBin gSub (eVar 6) (eC (.int 1))) (gNm 4)))))
def g__law_paper : Ev → Gp → SR := (sSeq (sAsg (eLst aNil) (gNm 3)) (sSeq (sAsg (eC (.int 0)) (gNm 4)) (sSeq (sFor (iOfs (aCons (eVar 1) aNil) kRng1) (gNm 5) g__law_paper_2) (sRet (eCall bTuple (aCons (eVar 3) aNil))))))
def F__law_paper : List U → Gp → R U := defF 3 8 g__law_paper
theorem ar__law_paper : Ar 3 F__law_paper := ar_defF
theorem run__law_paper (x0 x1 x2 : U) (G : Gp) : F__law_paper [x0, x1, x2] G = fin (g__law_paper [some x0, some x1, some x2, none, none, none, none, none] G) := defF_eq rfl G rfl
def g_is_integer : Ev → Gp → SR := (sRet (eAnd (eIs tbInt (eVar 0)) (eNot (eIs tbBool (eVar 0)))))
def F_is_integer : List U → Gp → R U := defF 1 1 g_is_integer
theorem ar_is_integer : Ar 1 F_is_integer := ar_defF
theorem run_is_integer (x0 : U) (G : Gp) : F_is_integer [x0] G = fin (g_is_integer [some x0] G) := defF_eq rfl G rfl
def g_is_from_to : Ev → Gp → SR := (sRet (eAnd (eCall F_is_integer (aCons (eVar 0) aNil)) (eChain gLe gLe (eVar 1) (eVar 0) (eVar 2))))
def F_is_from_to : List U → Gp → R U := defF 3 3 g_is_from_to
theorem ar_is_from_to : Ar 3 F_is_from_to := ar_defF
theorem run_is_from_to (x0 x1 x2 : U) (G : Gp) : F_is_from_to [x0, x1, x2] G = fin (g_is_from_to [some x0, some x1, some x2] G) := defF_eq rfl G rfl
def g_checked_row_1 : Ev → Gp → SR := (sIf (tNotB (bVal (eCall F_is_from_to (aCons (eVar 5) (aCons (eVar 2) (aCons (eVar 3) aNil)))))) (sRaise "InvalidRow" ["place"] (aCons (eVar 4) aNil)) sNil)
def g_checked_row : Ev → Gp → SR := (sSeq (sIf (tOrB (tNotB (bVal (eIs tbSeq (eVar 0)))) (tNotB (bVal (eChain gLe gLe (eC (.int 1)) (eCall bLen (aCons (eVar 0) aNil)) (eVar 1))))) (sRaise "InvalidRow" ["place"] (aCons (eC (.int 0)) aNil)) sNil) (sSeq (sFor (iOfs (aCons (eVar 0) aNil) kEnum) (gTup (gCons (gNm 4) (gCons (gNm 5) gNil)) 2) g_checked_row_1) (sRet (eCall bTuple (aCons (eVar 0) aNil)))))
def F_checked_row : List U → Gp → R U := defF 4 6 g_checked_row
theorem ar_checked_row : Ar 4 F_checked_row := ar_defF
theorem run_checked_row (x0 x1 x2 x3 : U) (G : Gp) : F_checked_row [x0, x1, x2, x3] G = fin (g_checked_row [some x0, some x1, some x2, some x3, none, none] G) := defF_eq rfl G rfl
def g_checked_costs : Ev → Gp → SR := (sRet (eCall F_checked_row (aCons (eVar 0) (aCons (eC (.int 14)) (aCons (eC (.int 1)) (aCons (eC (.int 1000)) aNil))))))
def F_checked_costs : List U → Gp → R U := defF 1 1 g_checked_costs
theorem ar_checked_costs : Ar 1 F_checked_costs := ar_defF
theorem run_checked_costs (x0 : U) (G : Gp) : F_checked_costs [x0] G = fin (g_checked_costs [some x0] G) := defF_eq rfl G rfl
def g_check_number : Ev → Gp → SR := (sIf (tNotB (bVal (eCall F_is_from_to (aCons (eVar 0) (aCons (eVar 1) (aCons (eVar 2) aNil)))))) (sRaise "InvalidNumber" ["number"] (aCons (eVar 0) aNil)) sNil)
def F_check_number : List U → Gp → R U := defF 3 3 g_check_number
theorem ar_check_number : Ar 3 F_check_number := ar_defF
theorem run_check_number (x0 x1 x2 : U) (G : Gp) : F_check_number [x0, x1, x2] G = fin (g_check_number [some x0, some x1, some x2] G) := defF_eq rfl G rfl
def g_checked_cut : Ev → Gp → SR := (sSeq (sAsg (eCall F_checked_costs (aCons (eVar 0) aNil)) (gNm 2)) (sSeq (sExpr (eCall F_check_number (aCons (eVar 1) (aCons (eC (.int 1)) (aCons (eCall bLen (aCons (eVar 2) aNil)) aNil))))) (sRet (eVar 2))))
def F_checked_cut : List U → Gp → R U := defF 2 3 g_checked_cut
theorem ar_checked_cut : Ar 2 F_checked_cut := ar_defF
theorem run_checked_cut (x0 x1 : U) (G : Gp) : F_checked_cut [x0, x1] G = fin (g_checked_cut [some x0, some x1, none] G) := defF_eq rfl G rfl
def g_is_pair_of : Ev → Gp → SR := (sSeq (sIf (tOrB (tNotB (bVal (eIs tbTup (eVar 1)))) (bVal (eBin gNe (eCall bLen (aCons (eVar 1) aNil)) (eC (.int 2))))) (sRet (eC (.bl false))) sNil) (sSeq (sAsg (eVar 1) (gTup (gCons (gNm 3) (gCons (gNm 4) gNil)) 2)) (sSeq (sIf (tOrB (tNotB (bVal (eCall F_is_from_to (aCons (eVar 3) (aCons (eC (.int 0)) (aCons (eBin gSub (eCall bLen (aCons (eVar 0) aNil)) (eC (.int 1))) aNil)))))) (tNotB (bVal (eCall F_is_integer (aCons (eVar 4) aNil))))) (sRet (eC (.bl false))) sNil) (sSeq (sIf (tNotB (bVal (eChain gLt gLe (eVar 3) (eVar 4) (eCall bLen (aCons (eVar 0) aNil))))) (sRet (eC (.bl false))) sNil) (sRet (eBin gGe (eCall bSum (aCons (eSl (eVar 0) (pInt (eVar 3)) (pInt (eVar 4))) aNil)) (eVar 2)))))))
def F_is_pair_of : List U → Gp → R U := defF 3 5 g_is_pair_of
theorem ar_is_pair_of : Ar 3 F_is_pair_of := ar_defF
theorem run_is_pair_of (x0 x1 x2 : U) (G : Gp) : F_is_pair_of [x0, x1, x2] G = fin (g_is_pair_of [some x0, some x1, some x2, none, none] G) := defF_eq rfl G rfl
def g_top_paper_holds_1 : Ev → Gp → SR := (sSeq (sIf (tNotB (bVal (eCall F_is_pair_of (aCons (eVar 4) (aCons (eVar 6) (aCons (eVar 2) aNil)))))) (sRet (eC (.bl false))) sNil) (sSeq (sIf (bVal (eBin gLt (eBin gIdx (eVar 6) (eC (.int 0))) (eBin gSub (eVar 5) (eC (.int 1))))) (sRet (eC (.bl false))) sNil) (sAsg (eBin gIdx (eVar 6) (eC (.int 1))) (gNm 5))))
def g_top_paper_holds : Ev → Gp → SR := (sSeq (sAsg (eCall F_checked_cut (aCons (eVar 0) (aCons (eVar 1) aNil))) (gNm 4)) (sSeq (sIf (tOrB (tNotB (bVal (eIs tbTup (eVar 3)))) (bVal (eBin gNe (eCall bLen (aCons (eVar 3) aNil)) (eVar 1)))) (sRet (eC (.bl false))) sNil) (sSeq (sAsg (eC (.int 1)) (gNm 5)) (sSeq (sFor (iOf (eVar 3) kSeq) (gNm 6) g_top_paper_holds_1) (sRet (eC (.bl true)))))))
def F_top_paper_holds : List U → Gp → R U := defF 4 7 g_top_paper_holds
theorem ar_top_paper_holds : Ar 4 F_top_paper_holds := ar_defF
theorem run_top_paper_holds (x0 x1 x2 x3 : U) (G : Gp) : F_top_paper_holds [x0, x1, x2, x3] G = fin (g_top_paper_holds [some x0, some x1, some x2, some x3, none, none, none] G) := defF_eq rfl G rfl
def g__law_same_1 (rec : List U → Gp → R U) : Ev → Gp → SR := (sIf (tNotB (bVal (eCall rec (aCons (eBin gIdx (eVar 0) (eVar 2)) (aCons (eBin gIdx (eVar 1) (eVar 2)) aNil))))) (sRet (eC (.bl false))) sNil)
def g__law_same_2 (rec : List U → Gp → R U) : Ev → Gp → SR := (sSeq (sIf (tOrB (tNotB (bVal (eIs tbTup (eVar 0)))) (bVal (eBin gNe (eCall bLen (aCons (eVar 0) aNil)) (eCall bLen (aCons (eVar 1) aNil))))) (sRet (eC (.bl false))) sNil) (sSeq (sFor (iOfs (aCons (eCall bLen (aCons (eVar 1) aNil)) aNil) kRng1) (gNm 2) (g__law_same_1 rec)) (sRet (eC (.bl true)))))
def g__law_same_3 (rec : List U → Gp → R U) : Ev → Gp → SR := (sRet (eAnd (eIs tbBool (eVar 0)) (eBin gEq (eVar 0) (eVar 1))))
def g__law_same_4 (rec : List U → Gp → R U) : Ev → Gp → SR := (sRet (eAnd (eIs tbInt (eVar 0)) (eAnd (eNot (eIs tbBool (eVar 0))) (eBin gEq (eVar 0) (eVar 1)))))
def g__law_same (rec : List U → Gp → R U) : Ev → Gp → SR := (sSeq (sIf (bVal (eIs tbTup (eVar 1))) (g__law_same_2 rec) sNil) (sSeq (sIf (bVal (eBin gIsN (eVar 1) (eC .non))) (sRet (eBin gIsN (eVar 0) (eC .non))) sNil) (sSeq (sIf (bVal (eIs tbBool (eVar 1))) (g__law_same_3 rec) sNil) (sSeq (sIf (bVal (eIs tbInt (eVar 1))) (g__law_same_4 rec) sNil) (sRet (eAnd (eIs tbStr (eVar 0)) (eBin gEq (eVar 0) (eVar 1))))))))
def F__law_same : Nat → List U → Gp → R U
  | 0 => badF
  | d + 1 => defF 2 3 (g__law_same (F__law_same d))
theorem ar__law_same : ∀ d, Ar 2 (F__law_same d)
  | 0 => ar_bad
  | d + 1 => ar_defF
theorem run__law_same (d : Nat) (x0 x1 : U) (G : Gp) : F__law_same (d + 1) [x0, x1] G = fin (g__law_same (F__law_same d) [some x0, some x1, none] G) := defF_eq rfl G rfl
def g_stages_needed_1 : Ev → Gp → SR := (sSeq (sAug 2 gAugAdd (eC (.int 1))) (sAsg (eVar 1) (gNm 3)))
def g_stages_needed_2 : Ev → Gp → SR := (sSeq (sIf (tOrB (bVal (eBin gEq (eVar 2) (eC (.int 0)))) (bVal (eBin gGt (eVar 4) (eVar 3)))) g_stages_needed_1 sNil) (sAug 3 gSub (eVar 4)))
def g_stages_needed : Ev → Gp → SR := (sSeq (sAsg (eC (.int 0)) (gNm 2)) (sSeq (sAsg (eC (.int 0)) (gNm 3)) (sSeq (sFor (iOf (eVar 0) kSeq) (gNm 4) g_stages_needed_2) (sRet (eVar 2)))))
def F_stages_needed : List U → Gp → R U := defF 2 5 g_stages_needed
theorem ar_stages_needed : Ar 2 F_stages_needed := ar_defF
theorem run_stages_needed (x0 x1 : U) (G : Gp) : F_stages_needed [x0, x1] G = fin (g_stages_needed [some x0, some x1, none, none, none] G) := defF_eq rfl G rfl
def g_top_needed_1 : Ev → Gp → SR := (sSeq (sAsg (eBin gFdiv (eBin gAdd (eVar 2) (eVar 3)) (eC (.int 2))) (gNm 4)) (sIf (bVal (eBin gLe (eCall F_stages_needed (aCons (eVar 0) (aCons (eVar 4) aNil))) (eVar 1))) (sAsg (eVar 4) (gNm 3)) (sAsg (eBin gAdd (eVar 4) (eC (.int 1))) (gNm 2))))
def g_top_needed : Ev → Gp → SR := (sSeq (sAsg (eCall bMax (aCons (eVar 0) aNil)) (gNm 2)) (sSeq (sAsg (eCall bSum (aCons (eVar 0) aNil)) (gNm 3)) (sSeq (whileN (bVal (eBin gLt (eVar 2) (eVar 3))) g_top_needed_1 bigN) (sRet (eVar 2)))))
def F_top_needed : List U → Gp → R U := defF 2 5 g_top_needed
theorem ar_top_needed : Ar 2 F_top_needed := ar_defF
theorem run_top_needed (x0 x1 : U) (G : Gp) : F_top_needed [x0, x1] G = fin (g_top_needed [some x0, some x1, none, none, none] G) := defF_eq rfl G rfl
def g_can_be_cut_1 : Ev → Gp → SR := (sRet (eBin gEq (eCall bLen (aCons (eVar 0) aNil)) (eC (.int 0))))
def g_can_be_cut : Ev → Gp → SR := (sSeq (sIf (bVal (eBin gEq (eVar 1) (eC (.int 0)))) g_can_be_cut_1 sNil) (sRet (eAnd (eBin gLe (eVar 1) (eCall bLen (aCons (eVar 0) aNil))) (eBin gLe (eCall F_stages_needed (aCons (eVar 0) (aCons (eVar 2) aNil))) (eVar 1)))))
def F_can_be_cut : List U → Gp → R U := defF 3 3 g_can_be_cut
theorem ar_can_be_cut : Ar 3 F_can_be_cut := ar_defF
theorem run_can_be_cut (x0 x1 x2 : U) (G : Gp) : F_can_be_cut [x0, x1, x2] G = fin (g_can_be_cut [some x0, some x1, some x2] G) := defF_eq rfl G rfl
def g_best_cut_1 : Ev → Gp → SR := (sSeq (sAsg (eBin gAdd (eVar 5) (eC (.int 1))) (gNm 7)) (sSeq (whileN (tNotB (bVal (eCall F_can_be_cut (aCons (eSl (eVar 2) (pInt (eVar 7)) pNo) (aCons (eVar 6) (aCons (eVar 3) aNil)))))) (sAug 7 gAugAdd (eC (.int 1))) bigN) (sSeq (sExpr (eMeth mAppend (eVar 4) (aCons (eVar 7) aNil))) (sAsg (eVar 7) (gNm 5)))))
def g_best_cut : Ev → Gp → SR := (sSeq (sAsg (eCall F_checked_cut (aCons (eVar 0) (aCons (eVar 1) aNil))) (gNm 2)) (sSeq (sAsg (eCall F_top_needed (aCons (eVar 2) (aCons (eVar 1) aNil))) (gNm 3)) (sSeq (sAsg (eLst aNil) (gNm 4)) (sSeq (sAsg (eC (.int 0)) (gNm 5)) (sSeq (sFor (iOfs (aCons (eC (.int 1)) (aCons (eVar 1) aNil)) kRevR) (gNm 6) g_best_cut_1) (sRet (eCall bTuple (aCons (eVar 4) aNil))))))))
def F_best_cut : List U → Gp → R U := defF 2 8 g_best_cut
theorem ar_best_cut : Ar 2 F_best_cut := ar_defF
theorem run_best_cut (x0 x1 : U) (G : Gp) : F_best_cut [x0, x1] G = fin (g_best_cut [some x0, some x1, none, none, none, none, none, none] G) := defF_eq rfl G rfl
def g_least_top : Ev → Gp → SR := (sSeq (sAsg (eCall F_checked_cut (aCons (eVar 0) (aCons (eVar 1) aNil))) (gNm 2)) (sRet (eCall F_top_needed (aCons (eVar 2) (aCons (eVar 1) aNil)))))
def F_least_top : List U → Gp → R U := defF 2 3 g_least_top
theorem ar_least_top : Ar 2 F_least_top := ar_defF
theorem run_least_top (x0 x1 : U) (G : Gp) : F_least_top [x0, x1] G = fin (g_least_top [some x0, some x1, none] G) := defF_eq rfl G rfl
def g_fewest_stages : Ev → Gp → SR := (sSeq (sAsg (eCall F_checked_costs (aCons (eVar 0) aNil)) (gNm 2)) (sSeq (sExpr (eCall F_check_number (aCons (eVar 1) (aCons (eCall bMax (aCons (eVar 2) aNil)) (aCons (eC (.int 20000)) aNil))))) (sRet (eCall F_stages_needed (aCons (eVar 2) (aCons (eVar 1) aNil))))))
def F_fewest_stages : List U → Gp → R U := defF 2 3 g_fewest_stages
theorem ar_fewest_stages : Ar 2 F_fewest_stages := ar_defF
theorem run_fewest_stages (x0 x1 : U) (G : Gp) : F_fewest_stages [x0, x1] G = fin (g_fewest_stages [some x0, some x1, none] G) := defF_eq rfl G rfl
def g_shortest_from_1 : Ev → Gp → SR := (sSeq (sAug 4 gAugAdd (eBin gIdx (eVar 0) (eVar 3))) (sAug 3 gAugAdd (eC (.int 1))))
def g_shortest_from : Ev → Gp → SR := (sSeq (sAsg (eVar 1) (gNm 3)) (sSeq (sAsg (eC (.int 0)) (gNm 4)) (sSeq (whileN (bVal (eBin gLt (eVar 4) (eVar 2))) g_shortest_from_1 bigN) (sRet (eVar 3)))))
def F_shortest_from : List U → Gp → R U := defF 3 5 g_shortest_from
theorem ar_shortest_from : Ar 3 F_shortest_from := ar_defF
theorem run_shortest_from (x0 x1 x2 : U) (G : Gp) : F_shortest_from [x0, x1, x2] G = fin (g_shortest_from [some x0, some x1, some x2, none, none] G) := defF_eq rfl G rfl
def g_top_paper_1 : Ev → Gp → SR := (sSeq (sAsg (eCall F_shortest_from (aCons (eVar 2) (aCons (eVar 5) (aCons (eVar 3) aNil)))) (gNm 7)) (sSeq (sExpr (eMeth mAppend (eVar 4) (aCons (eTup (aCons (eVar 5) (aCons (eVar 7) aNil))) aNil))) (sAsg (eBin gSub (eVar 7) (eC (.int 1))) (gNm 5))))
def g_top_paper : Ev → Gp → SR := (sSeq (sAsg (eCall F_checked_cut (aCons (eVar 0) (aCons (eVar 1) aNil))) (gNm 2)) (sSeq (sAsg (eCall F_top_needed (aCons (eVar 2) (aCons (eVar 1) aNil))) (gNm 3)) (sSeq (sAsg (eLst aNil) (gNm 4)) (sSeq (sAsg (eC (.int 0)) (gNm 5)) (sSeq (sFor (iOfs (aCons (eVar 1) aNil) kRng1) (gNm 6) g_top_paper_1) (sRet (eCall bTuple (aCons (eVar 4) aNil))))))))
def F_top_paper : List U → Gp → R U := defF 2 8 g_top_paper
theorem ar_top_paper : Ar 2 F_top_paper := ar_defF
theorem run_top_paper (x0 x1 : U) (G : Gp) : F_top_paper [x0, x1] G = fin (g_top_paper [some x0, some x1, none, none, none, none, none, none] G) := defF_eq rfl G rfl
def g__law_cut_right_1 : Ev → Gp → SR := (sSeq (sAsg (eBin gIdx (eComp [10] (iOfs (aCons (eC (.int 1)) (aCons (eCall bLen (aCons (eVar 1) aNil)) aNil)) kRng2) (gNm 10) (bVal (eBin gLe (eBin gIdx (eBin gIdx (eVar 2) (eVar 10)) (eC (.int 0))) (eVar 7))) (eVar 10)) (eC (.int 0))) (gNm 8)) (sIf (tNotB (bVal (eCall (F__law_same 40) (aCons (eCall F_fewest_stages (aCons (eVar 6) (aCons (eVar 7) aNil))) (aCons (eVar 8) aNil))))) (sRet (eC (.bl false))) sNil))
def g__law_cut_right : Ev → Gp → SR := (sSeq (sAsg (eBin gIdx (eBin gIdx (eVar 2) (eVar 3)) (eC (.int 0))) (gNm 4)) (sSeq (sAsg (eCall F__law_first (aCons (eVar 1) (aCons (eVar 2) (aCons (eVar 3) aNil)))) (gNm 5)) (sSeq (sAsg (eCall bList (aCons (eVar 0) aNil)) (gNm 6)) (sSeq (sIf (tOrB (tNotB (bVal (eCall (F__law_same 40) (aCons (eCall F_best_cut (aCons (eVar 6) (aCons (eVar 3) aNil))) (aCons (eVar 5) aNil))))) (tNotB (bVal (eCall (F__law_same 40) (aCons (eCallK F_best_cut 0 2 [1, 0] aNil (aCons (eVar 3) (aCons (eCall bTuple (aCons (eVar 0) aNil)) aNil))) (aCons (eVar 5) aNil)))))) (sRet (eC (.bl false))) sNil) (sSeq (sIf (tOrB (tNotB (bVal (eCall (F__law_same 40) (aCons (eCall F_least_top (aCons (eVar 6) (aCons (eVar 3) aNil))) (aCons (eVar 4) aNil))))) (bVal (eBin gNe (eVar 6) (eVar 0)))) (sRet (eC (.bl false))) sNil) (sSeq (sFor (iOf (eTup (aCons (eVar 4) (aCons (eC (.int 20)) (aCons (eCall bMax (aCons (eVar 0) aNil)) aNil)))) kSeq) (gNm 7) g__law_cut_right_1) (sSeq (sAsg (eCall F__law_paper (aCons (eVar 1) (aCons (eVar 3) (aCons (eVar 4) aNil)))) (gNm 9)) (sSeq (sIf (tOrB (tNotB (bVal (eCall (F__law_same 40) (aCons (eCall F_top_paper (aCons (eVar 6) (aCons (eVar 3) aNil))) (aCons (eVar 9) aNil))))) (bVal (eBin gNe (eVar 6) (eVar 0)))) (sRet (eC (.bl false))) sNil) (sSeq (sIf (bVal (eBin gNotB (eCall F_top_paper_holds (aCons (eVar 6) (aCons (eVar 3) (aCons (eVar 4) (aCons (eVar 9) aNil))))) (eC (.bl true)))) (sRet (eC (.bl false))) sNil) (sRet (eBin gIsB (eCallK F_top_paper_holds 0 4 [0, 1, 2, 3] aNil (aCons (eVar 6) (aCons (eVar 3) (aCons (eBin gAdd (eVar 4) (eC (.int 1))) (aCons (eVar 9) aNil))))) (eC (.bl false)))))))))))))
def F__law_cut_right : List U → Gp → R U := defF 4 11 g__law_cut_right
theorem ar__law_cut_right : Ar 4 F__law_cut_right := ar_defF
theorem run__law_cut_right (x0 x1 x2 x3 : U) (G : Gp) : F__law_cut_right [x0, x1, x2, x3] G = fin (g__law_cut_right [some x0, some x1, some x2, some x3, none, none, none, none, none, none, none] G) := defF_eq rfl G rfl
def g__law_sums_1 : Ev → Gp → SR := (sSeq (sExpr (eMeth mAppend (eVar 2) (aCons (eBin gSub (eBin gIdx (eVar 0) (eVar 4)) (eBin gIdx (eVar 0) (eVar 3))) aNil))) (sAsg (eVar 4) (gNm 3)))
def g__law_sums : Ev → Gp → SR := (sSeq (sAsg (eLst aNil) (gNm 2)) (sSeq (sAsg (eC (.int 0)) (gNm 3)) (sSeq (sFor (iOf (eBin gAdd (eCall bList (aCons (eVar 1) aNil)) (eLst (aCons (eBin gSub (eCall bLen (aCons (eVar 0) aNil)) (eC (.int 1))) aNil))) kSeq) (gNm 4) g__law_sums_1) (sRet (eVar 2)))))
def F__law_sums : List U → Gp → R U := defF 2 5 g__law_sums
theorem ar__law_sums : Ar 2 F__law_sums := ar_defF
theorem run__law_sums (x0 x1 : U) (G : Gp) : F__law_sums [x0, x1] G = fin (g__law_sums [some x0, some x1, none, none, none] G) := defF_eq rfl G rfl
def g__law_drawn_1 : Ev → Gp → SR := (sExpr (eMeth mPopAt (eVar 3) (aCons (eCall F__law_next (aCons (eVar 0) (aCons (eCall bLen (aCons (eVar 3) aNil)) aNil))) aNil)))
def g__law_drawn : Ev → Gp → SR := (sSeq (sAsg (eBin gRgL (eC (.int 1)) (eVar 1)) (gNm 3)) (sSeq (sFor (iOfs (aCons (eBin gSub (eVar 1) (eVar 2)) aNil) kRng1) (gNm 4) g__law_drawn_1) (sRet (eCall bTuple (aCons (eVar 3) aNil)))))
def F__law_drawn : List U → Gp → R U := defF 3 5 g__law_drawn
theorem ar__law_drawn : Ar 3 F__law_drawn := ar_defF
theorem run__law_drawn (x0 x1 x2 : U) (G : Gp) : F__law_drawn [x0, x1, x2] G = fin (g__law_drawn [some x0, some x1, some x2, none, none] G) := defF_eq rfl G rfl
def g__law_every_1 : Ev → Gp → SR := (sAsg (eBin gIdx (eVar 5) (eUn gNeg (eC (.int 1)))) (gNm 6))
def g__law_every_2 : Ev → Gp → SR := (sExpr (eMeth mAppend (eVar 4) (aCons (eBin gAdd (eVar 5) (eTup (aCons (eVar 7) aNil))) aNil)))
def g__law_every_3 : Ev → Gp → SR := (sSeq (sAsg (eC (.int 0)) (gNm 6)) (sSeq (sIf (bVal (eBin gGt (eVar 3) (eC (.int 0)))) g__law_every_1 sNil) (sFor (iOfs (aCons (eBin gAdd (eVar 6) (eC (.int 1))) (aCons (eBin gSub (eVar 0) (eBin gSub (eBin gSub (eVar 1) (eC (.int 2))) (eVar 3))) aNil)) kRng2) (gNm 7) g__law_every_2)))
def g__law_every_4 : Ev → Gp → SR := (sSeq (sAsg (eLst aNil) (gNm 4)) (sSeq (sFor (iOf (eVar 2) kSeq) (gNm 5) g__law_every_3) (sAsg (eVar 4) (gNm 2))))
def g__law_every : Ev → Gp → SR := (sSeq (sAsg (eLst (aCons (eTup aNil) aNil)) (gNm 2)) (sSeq (sFor (iOfs (aCons (eBin gSub (eVar 1) (eC (.int 1))) aNil) kRng1) (gNm 3) g__law_every_4) (sRet (eVar 2))))
def F__law_every : List U → Gp → R U := defF 2 8 g__law_every
theorem ar__law_every : Ar 2 F__law_every := ar_defF
theorem run__law_every (x0 x1 : U) (G : Gp) : F__law_every [x0, x1] G = fin (g__law_every [some x0, some x1, none, none, none, none, none, none] G) := defF_eq rfl G rfl
def g__law_holds_1 : Ev → Gp → SR := (sSeq (sIf (tOrB (bVal (eBin gLt (eBin gIdx (eBin gIdx (eVar 2) (eVar 3)) (eVar 4)) (eC (.int 0)))) (tAndB (bVal (eBin gGt (eVar 4) (eC (.int 0)))) (bVal (eBin gLt (eBin gIdx (eBin gIdx (eVar 2) (eVar 3)) (eVar 4)) (eBin gAdd (eBin gIdx (eBin gIdx (eVar 2) (eVar 3)) (eBin gSub (eVar 4) (eC (.int 1)))) (eBin gIdx (eVar 0) (eVar 3))))))) (sRet (eC (.bl false))) sNil) (sIf (tAndB (bVal (eBin gGt (eVar 3) (eC (.int 0)))) (bVal (eBin gLt (eBin gIdx (eBin gIdx (eVar 2) (eVar 3)) (eVar 4)) (eBin gAdd (eBin gIdx (eBin gIdx (eVar 2) (eBin gSub (eVar 3) (eC (.int 1)))) (eVar 4)) (eBin gIdx (eVar 0) (eBin gSub (eVar 3) (eC (.int 1)))))))) (sRet (eC (.bl false))) sNil))
def g__law_holds_2 : Ev → Gp → SR := (sFor (iOfs (aCons (eVar 1) aNil) kRng1) (gNm 4) g__law_holds_1)
def g__law_holds : Ev → Gp → SR := (sSeq (sIf (bVal (eBin gNe (eCall bLen (aCons (eVar 2) aNil)) (eCall bLen (aCons (eVar 0) aNil)))) (sRet (eC (.bl false))) sNil) (sSeq (sFor (iOfs (aCons (eCall bLen (aCons (eVar 0) aNil)) aNil) kRng1) (gNm 3) g__law_holds_2) (sRet (eC (.bl true)))))
def F__law_holds : List U → Gp → R U := defF 3 5 g__law_holds
theorem ar__law_holds : Ar 3 F__law_holds := ar_defF
theorem run__law_holds (x0 x1 x2 : U) (G : Gp) : F__law_holds [x0, x1, x2] G = fin (g__law_holds [some x0, some x1, some x2, none, none] G) := defF_eq rfl G rfl
def g__law_late_1 : Ev → Gp → SR := (sAsg (eBin gIdx (eVar 5) (eBin gSub (eVar 6) (eVar 2))) (gNm 7))
def g__law_late_2 : Ev → Gp → SR := (sSeq (sAsg (eCall bMax2 (aCons (eVar 7) (aCons (eBin gIdx (eVar 3) (eVar 8)) aNil))) (gNm 9)) (sSeq (sAsg (eBin gIdx (eVar 4) (eVar 8)) (gNm 10)) (sSeq (sExpr (eMeth mAppend (eVar 10) (aCons (eVar 9) aNil))) (sSeq (sAsg (eBin gAdd (eVar 9) (eBin gIdx (eVar 0) (eVar 8))) (gNm 7)) (sAsg (eVar 7) (gSubE (eVar 3) (eVar 8)))))))
def g__law_late_3 : Ev → Gp → SR := (sSeq (sAsg (eC (.int 0)) (gNm 7)) (sSeq (sIf (bVal (eBin gGe (eVar 6) (eVar 2))) g__law_late_1 sNil) (sSeq (sFor (iOfs (aCons (eCall bLen (aCons (eVar 0) aNil)) aNil) kRng1) (gNm 8) g__law_late_2) (sExpr (eMeth mAppend (eVar 5) (aCons (eVar 7) aNil))))))
def g__law_late : Ev → Gp → SR := (sSeq (sAsg (eComp [11] (iOf (eVar 0) kSeq) (gNm 11) tYesB (eC (.int 0))) (gNm 3)) (sSeq (sAsg (eComp [11] (iOf (eVar 0) kSeq) (gNm 11) tYesB (eLst aNil)) (gNm 4)) (sSeq (sAsg (eLst aNil) (gNm 5)) (sSeq (sFor (iOfs (aCons (eVar 1) aNil) kRng1) (gNm 6) g__law_late_3) (sRet (eTup (aCons (eCall bTuple (aCons (eComp [10] (iOf (eVar 4) kSeq) (gNm 10) tYesB (eCall bTuple (aCons (eVar 10) aNil))) aNil)) (aCons (eBin gIdx (eVar 5) (eUn gNeg (eC (.int 1)))) aNil))))))))
def F__law_late : List U → Gp → R U := defF 3 12 g__law_late
theorem ar__law_late : Ar 3 F__law_late := ar_defF
theorem run__law_late (x0 x1 x2 : U) (G : Gp) : F__law_late [x0, x1, x2] G = fin (g__law_late [some x0, some x1, some x2, none, none, none, none, none, none, none, none, none] G) := defF_eq rfl G rfl
def g__law_due_1 : Ev → Gp → SR := (sRet (eTup (aCons (eC (.str ("row" : Str))) (aCons (eBin gIdx (eVar 4) (eC (.int 0))) aNil))))
def g__law_due_2 : Ev → Gp → SR := (sRet (eTup (aCons (eC (.str ("told" : Str))) (aCons (eCall F__law_begins (aCons (eVar 1) (aCons (eVar 2) aNil))) aNil))))
def g__law_due_3 : Ev → Gp → SR := (sRet (eTup (aCons (eC (.str ("told" : Str))) (aCons (eCall F__law_holds (aCons (eVar 1) (aCons (eVar 2) (aCons (eVar 3) aNil)))) aNil))))
def g__law_due_4 : Ev → Gp → SR := (sRet (eTup (aCons (eC (.str ("told" : Str))) (aCons (eBin gIdx (eCall F__law_late (aCons (eVar 1) (aCons (eVar 2) (aCons (eVar 3) aNil)))) (eC (.int 1))) aNil))))
def g__law_due_5 : Ev → Gp → SR := (sRet (eTup (aCons (eC (.str ("told" : Str))) (aCons (eBin gIdx (eCall F__law_late (aCons (eVar 1) (aCons (eVar 2) (aCons (eVar 3) aNil)))) (eC (.int 0))) aNil))))
def g__law_due : Ev → Gp → SR := (sSeq (sAsg (eComp [5] (iOfs (aCons (eCall bLen (aCons (eVar 1) aNil)) aNil) kRng1) (gNm 5) (bVal (eBin gGt (eBin gIdx (eVar 1) (eVar 5)) (eC (.int 20)))) (eVar 5)) (gNm 4)) (sSeq (sIf (bVal (eBin gGt (eCall bLen (aCons (eVar 4) aNil)) (eC (.int 0)))) g__law_due_1 sNil) (sSeq (sIf (bVal (eBin gEq (eVar 0) (eC (.int 1)))) g__law_due_2 sNil) (sSeq (sIf (bVal (eBin gEq (eVar 0) (eC (.int 2)))) g__law_due_3 sNil) (sSeq (sIf (bVal (eBin gEq (eVar 0) (eC (.int 3)))) g__law_due_4 sNil) (sSeq (sIf (bVal (eBin gEq (eVar 0) (eC (.int 4)))) g__law_due_5 sNil) (sRet (eTup (aCons (eC (.str ("told" : Str))) (aCons (eBin gAdd (eBin gIdx (eBin gIdx (eCall F__law_begins (aCons (eVar 1) (aCons (eVar 2) aNil))) (eUn gNeg (eC (.int 1)))) (eUn gNeg (eC (.int 1)))) (eBin gIdx (eVar 1) (eUn gNeg (eC (.int 1))))) aNil))))))))))
def F__law_due : List U → Gp → R U := defF 4 6 g__law_due
theorem ar__law_due : Ar 4 F__law_due := ar_defF
theorem run__law_due (x0 x1 x2 x3 : U) (G : Gp) : F__law_due [x0, x1, x2, x3] G = fin (g__law_due [some x0, some x1, some x2, some x3, none, none] G) := defF_eq rfl G rfl
def g_checked_times : Ev → Gp → SR := (sSeq (sAsg (eCall F_checked_row (aCons (eVar 0) (aCons (eC (.int 6)) (aCons (eC (.int 1)) (aCons (eC (.int 20)) aNil))))) (gNm 2)) (sSeq (sExpr (eCall F_check_number (aCons (eVar 1) (aCons (eC (.int 1)) (aCons (eC (.int 20)) aNil))))) (sRet (eVar 2))))
def F_checked_times : List U → Gp → R U := defF 2 3 g_checked_times
theorem ar_checked_times : Ar 2 F_checked_times := ar_defF
theorem run_checked_times (x0 x1 : U) (G : Gp) : F_checked_times [x0, x1] G = fin (g_checked_times [some x0, some x1, none] G) := defF_eq rfl G rfl
def g_pipe_ticks : Ev → Gp → SR := (sSeq (sAsg (eCall F_checked_times (aCons (eVar 0) (aCons (eVar 1) aNil))) (gNm 2)) (sRet (eBin gAdd (eCall bSum (aCons (eVar 2) aNil)) (eBin gMul (eBin gSub (eVar 1) (eC (.int 1))) (eCall bMax (aCons (eVar 2) aNil))))))
def F_pipe_ticks : List U → Gp → R U := defF 2 3 g_pipe_ticks
theorem ar_pipe_ticks : Ar 2 F_pipe_ticks := ar_defF
theorem run_pipe_ticks (x0 x1 : U) (G : Gp) : F_pipe_ticks [x0, x1] G = fin (g_pipe_ticks [some x0, some x1, none] G) := defF_eq rfl G rfl
def g_begins_within_1 : Ev → Gp → SR := (sAsg (eBin gAdd (eBin gIdx (eBin gIdx (eVar 3) (eUn gNeg (eC (.int 1)))) (eBin gSub (eVar 4) (eVar 2))) (eBin gIdx (eVar 0) (eUn gNeg (eC (.int 1))))) (gNm 5))
def g_begins_within_2 : Ev → Gp → SR := (sAsg (eCall bMax2 (aCons (eVar 5) (aCons (eBin gAdd (eBin gIdx (eBin gIdx (eVar 3) (eVar 6)) (eBin gSub (eVar 4) (eC (.int 1)))) (eVar 7)) aNil))) (gNm 5))
def g_begins_within_3 : Ev → Gp → SR := (sSeq (sIf (bVal (eBin gGt (eVar 4) (eC (.int 0)))) g_begins_within_2 sNil) (sSeq (sExpr (eMeth mAppend (eBin gIdx (eVar 3) (eVar 6)) (aCons (eVar 5) aNil))) (sAug 5 gAugAdd (eVar 7))))
def g_begins_within_4 : Ev → Gp → SR := (sSeq (sAsg (eC (.int 0)) (gNm 5)) (sSeq (sIf (bVal (eBin gGe (eVar 4) (eVar 2))) g_begins_within_1 sNil) (sFor (iOfs (aCons (eVar 0) aNil) kEnum) (gTup (gCons (gNm 6) (gCons (gNm 7) gNil)) 2) g_begins_within_3)))
def g_begins_within : Ev → Gp → SR := (sSeq (sAsg (eComp [8] (iOf (eVar 0) kSeq) (gNm 8) tYesB (eLst aNil)) (gNm 3)) (sSeq (sFor (iOfs (aCons (eVar 1) aNil) kRng1) (gNm 4) g_begins_within_4) (sRet (eCall bTuple (aCons (eComp [6] (iOf (eVar 3) kSeq) (gNm 6) tYesB (eCall bTuple (aCons (eVar 6) aNil))) aNil)))))
def F_begins_within : List U → Gp → R U := defF 3 9 g_begins_within
theorem ar_begins_within : Ar 3 F_begins_within := ar_defF
theorem run_begins_within (x0 x1 x2 : U) (G : Gp) : F_begins_within [x0, x1, x2] G = fin (g_begins_within [some x0, some x1, some x2, none, none, none, none, none, none] G) := defF_eq rfl G rfl
def g_begins : Ev → Gp → SR := (sSeq (sAsg (eCall F_checked_times (aCons (eVar 0) (aCons (eVar 1) aNil))) (gNm 2)) (sRet (eCall F_begins_within (aCons (eVar 2) (aCons (eVar 1) (aCons (eVar 1) aNil))))))
def F_begins : List U → Gp → R U := defF 2 3 g_begins
theorem ar_begins : Ar 2 F_begins := ar_defF
theorem run_begins (x0 x1 : U) (G : Gp) : F_begins [x0, x1] G = fin (g_begins [some x0, some x1, none] G) := defF_eq rfl G rfl
def g_is_table_1 : Ev → Gp → SR := (sSeq (sIf (tOrB (tNotB (bVal (eIs tbTup (eVar 3)))) (bVal (eBin gNe (eCall bLen (aCons (eVar 3) aNil)) (eVar 1)))) (sRet (eC (.bl false))) sNil) (sIf (tNotB (bVal (eCall bAll (aCons (eComp [4] (iOf (eVar 3) kSeq) (gNm 4) tYesB (eAnd (eCall F_is_integer (aCons (eVar 4) aNil)) (eBin gGe (eVar 4) (eC (.int 0))))) aNil)))) (sRet (eC (.bl false))) sNil))
def g_is_table : Ev → Gp → SR := (sSeq (sIf (tOrB (tNotB (bVal (eIs tbTup (eVar 2)))) (bVal (eBin gNe (eCall bLen (aCons (eVar 2) aNil)) (eCall bLen (aCons (eVar 0) aNil))))) (sRet (eC (.bl false))) sNil) (sSeq (sFor (iOf (eVar 2) kSeq) (gNm 3) g_is_table_1) (sRet (eC (.bl true)))))
def F_is_table : List U → Gp → R U := defF 3 5 g_is_table
theorem ar_is_table : Ar 3 F_is_table := ar_defF
theorem run_is_table (x0 x1 x2 : U) (G : Gp) : F_is_table [x0, x1, x2] G = fin (g_is_table [some x0, some x1, some x2, none, none] G) := defF_eq rfl G rfl
def g_begins_hold_1 : Ev → Gp → SR := (sSeq (sAsg (eBin gIdx (eBin gIdx (eVar 2) (eVar 4)) (eVar 6)) (gNm 7)) (sSeq (sIf (tAndB (bVal (eBin gGt (eVar 6) (eC (.int 0)))) (bVal (eBin gLt (eVar 7) (eBin gAdd (eBin gIdx (eBin gIdx (eVar 2) (eVar 4)) (eBin gSub (eVar 6) (eC (.int 1)))) (eVar 5))))) (sRet (eC (.bl false))) sNil) (sIf (tAndB (bVal (eBin gGt (eVar 4) (eC (.int 0)))) (bVal (eBin gLt (eVar 7) (eBin gAdd (eBin gIdx (eBin gIdx (eVar 2) (eBin gSub (eVar 4) (eC (.int 1)))) (eVar 6)) (eBin gIdx (eVar 3) (eBin gSub (eVar 4) (eC (.int 1)))))))) (sRet (eC (.bl false))) sNil)))
def g_begins_hold_2 : Ev → Gp → SR := (sFor (iOfs (aCons (eVar 1) aNil) kRng1) (gNm 6) g_begins_hold_1)
def g_begins_hold : Ev → Gp → SR := (sSeq (sAsg (eCall F_checked_times (aCons (eVar 0) (aCons (eVar 1) aNil))) (gNm 3)) (sSeq (sIf (tNotB (bVal (eCall F_is_table (aCons (eVar 3) (aCons (eVar 1) (aCons (eVar 2) aNil)))))) (sRet (eC (.bl false))) sNil) (sSeq (sFor (iOfs (aCons (eVar 3) aNil) kEnum) (gTup (gCons (gNm 4) (gCons (gNm 5) gNil)) 2) g_begins_hold_2) (sRet (eC (.bl true))))))
def F_begins_hold : List U → Gp → R U := defF 3 8 g_begins_hold
theorem ar_begins_hold : Ar 3 F_begins_hold := ar_defF
theorem run_begins_hold (x0 x1 x2 : U) (G : Gp) : F_begins_hold [x0, x1, x2] G = fin (g_begins_hold [some x0, some x1, some x2, none, none, none, none, none] G) := defF_eq rfl G rfl
def g_end_of : Ev → Gp → SR := (sRet (eBin gAdd (eBin gIdx (eBin gIdx (eVar 1) (eUn gNeg (eC (.int 1)))) (eUn gNeg (eC (.int 1)))) (eBin gIdx (eVar 0) (eUn gNeg (eC (.int 1))))))
def F_end_of : List U → Gp → R U := defF 2 2 g_end_of
theorem ar_end_of : Ar 2 F_end_of := ar_defF
theorem run_end_of (x0 x1 : U) (G : Gp) : F_end_of [x0, x1] G = fin (g_end_of [some x0, some x1] G) := defF_eq rfl G rfl
def g_late_ticks : Ev → Gp → SR := (sSeq (sAsg (eCall F_checked_times (aCons (eVar 0) (aCons (eVar 1) aNil))) (gNm 3)) (sSeq (sExpr (eCall F_check_number (aCons (eVar 2) (aCons (eC (.int 1)) (aCons (eC (.int 20)) aNil))))) (sRet (eCall F_end_of (aCons (eVar 3) (aCons (eCall F_begins_within (aCons (eVar 3) (aCons (eVar 1) (aCons (eVar 2) aNil)))) aNil))))))
def F_late_ticks : List U → Gp → R U := defF 3 4 g_late_ticks
theorem ar_late_ticks : Ar 3 F_late_ticks := ar_defF
theorem run_late_ticks (x0 x1 x2 : U) (G : Gp) : F_late_ticks [x0, x1, x2] G = fin (g_late_ticks [some x0, some x1, some x2, none] G) := defF_eq rfl G rfl
def g_least_late : Ev → Gp → SR := (sSeq (sAsg (eCall F_checked_times (aCons (eVar 0) (aCons (eVar 1) aNil))) (gNm 3)) (sSeq (sExpr (eCall F_check_number (aCons (eVar 2) (aCons (eC (.int 1)) (aCons (eC (.int 20)) aNil))))) (sRet (eCall F_begins_within (aCons (eVar 3) (aCons (eVar 1) (aCons (eVar 2) aNil)))))))
def F_least_late : List U → Gp → R U := defF 3 4 g_least_late
theorem ar_least_late : Ar 3 F_least_late := ar_defF
theorem run_least_late (x0 x1 x2 : U) (G : Gp) : F_least_late [x0, x1, x2] G = fin (g_least_late [some x0, some x1, some x2, none] G) := defF_eq rfl G rfl
def g__law_piped_1 : Ev → Gp → SR := (sRet (eTup (aCons (eC (.str ("told" : Str))) (aCons (eCall F_pipe_ticks (aCons (eVar 1) (aCons (eVar 2) aNil))) aNil))))
def g__law_piped_2 : Ev → Gp → SR := (sRet (eTup (aCons (eC (.str ("told" : Str))) (aCons (eCall F_begins (aCons (eVar 1) (aCons (eVar 2) aNil))) aNil))))
def g__law_piped_3 : Ev → Gp → SR := (sRet (eTup (aCons (eC (.str ("told" : Str))) (aCons (eCall F_begins_hold (aCons (eVar 1) (aCons (eVar 2) (aCons (eVar 3) aNil)))) aNil))))
def g__law_piped_4 : Ev → Gp → SR := (sRet (eTup (aCons (eC (.str ("told" : Str))) (aCons (eCall F_late_ticks (aCons (eVar 1) (aCons (eVar 2) (aCons (eVar 3) aNil)))) aNil))))
def g__law_piped_5 : Ev → Gp → SR := (sRet (eTup (aCons (eC (.str ("told" : Str))) (aCons (eCall F_least_late (aCons (eVar 1) (aCons (eVar 2) (aCons (eVar 3) aNil)))) aNil))))
def g__law_piped_6 : Ev → Gp → SR := (sSeq (sIf (bVal (eBin gEq (eVar 0) (eC (.int 0)))) g__law_piped_1 sNil) (sSeq (sIf (bVal (eBin gEq (eVar 0) (eC (.int 1)))) g__law_piped_2 sNil) (sSeq (sIf (bVal (eBin gEq (eVar 0) (eC (.int 2)))) g__law_piped_3 sNil) (sSeq (sIf (bVal (eBin gEq (eVar 0) (eC (.int 3)))) g__law_piped_4 sNil) (sSeq (sIf (bVal (eBin gEq (eVar 0) (eC (.int 4)))) g__law_piped_5 sNil) (sRet (eTup (aCons (eC (.str ("told" : Str))) (aCons (eCallK F_pipe_ticks 0 2 [1, 0] aNil (aCons (eVar 2) (aCons (eVar 1) aNil))) aNil)))))))))
def g__law_piped : Ev → Gp → SR := (sTry exT g__law_piped_6 (("InvalidRow", (some 4), (fun c fs => (sSeq (sIf (bVal (eXis 4 (kitT exT c ["InvalidNumber"]))) (sRet (eC .non)) sNil) (sRet (eTup (aCons (eC (.str ("row" : Str))) (aCons (eXf 4 fs "place") aNil))))))) :: (("DealError", none, (fun c fs => (sRet (eC .non)))) :: [])))
def F__law_piped : List U → Gp → R U := defF 4 5 g__law_piped
theorem ar__law_piped : Ar 4 F__law_piped := ar_defF
theorem run__law_piped (x0 x1 x2 x3 : U) (G : Gp) : F__law_piped [x0, x1, x2, x3] G = fin (g__law_piped [some x0, some x1, some x2, some x3, none] G) := defF_eq rfl G rfl
def g__law_asked : Ev → Gp → SR := (sSeq (sAsg (eCall F__law_due (aCons (eVar 0) (aCons (eVar 1) (aCons (eVar 2) (aCons (eVar 3) aNil))))) (gNm 4)) (sSeq (sAsg (eCall bList (aCons (eVar 1) aNil)) (gNm 5)) (sRet (eAnd (eCall (F__law_same 40) (aCons (eCall F__law_piped (aCons (eVar 0) (aCons (eVar 5) (aCons (eVar 2) (aCons (eVar 3) aNil))))) (aCons (eVar 4) aNil))) (eBin gEq (eVar 5) (eVar 1))))))
def F__law_asked : List U → Gp → R U := defF 4 6 g__law_asked
theorem ar__law_asked : Ar 4 F__law_asked := ar_defF
theorem run__law_asked (x0 x1 x2 x3 : U) (G : Gp) : F__law_asked [x0, x1, x2, x3] G = fin (g__law_asked [some x0, some x1, some x2, some x3, none, none] G) := defF_eq rfl G rfl
def g__law_earlier : Ev → Gp → SR := (sSeq (sAsg (eComp [3] (iOf (eVar 1) kSeq) (gNm 3) tYesB (eCall bList (aCons (eVar 3) aNil))) (gNm 2)) (sSeq (sAsg (eBin gIdx (eVar 2) (eCall F__law_next (aCons (eVar 0) (aCons (eCall bLen (aCons (eVar 2) aNil)) aNil)))) (gNm 3)) (sSeq (sAsg (eCall F__law_next (aCons (eVar 0) (aCons (eCall bLen (aCons (eVar 3) aNil)) aNil))) (gNm 4)) (sSeq (sAsg (eBin gSub (eBin gIdx (eVar 3) (eVar 4)) (eC (.int 1))) (gSubE (eVar 3) (eVar 4))) (sRet (eCall bTuple (aCons (eComp [3] (iOf (eVar 2) kSeq) (gNm 3) tYesB (eCall bTuple (aCons (eVar 3) aNil))) aNil)))))))
def F__law_earlier : List U → Gp → R U := defF 2 5 g__law_earlier
theorem ar__law_earlier : Ar 2 F__law_earlier := ar_defF
theorem run__law_earlier (x0 x1 : U) (G : Gp) : F__law_earlier [x0, x1] G = fin (g__law_earlier [some x0, some x1, none, none, none] G) := defF_eq rfl G rfl
def g_law_1 : Ev → Gp → SR := (sExpr (eMeth mAppend (eVar 8) (aCons (eCall F__law_drawn (aCons (eVar 1) (aCons (eCall bLen (aCons (eVar 2) aNil)) (aCons (eVar 3) aNil)))) aNil)))
def g_law_2 : Ev → Gp → SR := (sAsg (eBin gAdd (eLst (aCons (eVar 7) aNil)) (eCall F__law_every (aCons (eCall bLen (aCons (eVar 2) aNil)) (aCons (eVar 3) aNil)))) (gNm 8))
def g_law_3 : Ev → Gp → SR := (sIf (tNotB (bVal (eCall F__law_asked (aCons (eBin gMul (eC (.int 5)) (eCall F__law_next (aCons (eVar 1) (aCons (eC (.int 2)) aNil)))) (aCons (eCall F__law_sums (aCons (eVar 5) (aCons (eVar 10) aNil))) (aCons (eVar 4) (aCons (eC .non) aNil))))))) (sRet (eC (.bl false))) sNil)
def g_law_4 : Ev → Gp → SR := (sIf (tNotB (bVal (eCall F__law_asked (aCons (eC (.int 2)) (aCons (eVar 12) (aCons (eVar 4) (aCons (eVar 14) aNil))))))) (sRet (eC (.bl false))) sNil)
def g_law_5 : Ev → Gp → SR := (sIf (tNotB (bVal (eCall F__law_asked (aCons (eC (.int 3)) (aCons (eVar 12) (aCons (eVar 4) (aCons (eVar 15) aNil))))))) (sRet (eC (.bl false))) sNil)
def g_law_6 : Ev → Gp → SR := (sSeq (sAsg (eCall F__law_sums (aCons (eVar 5) (aCons (eVar 10) aNil))) (gNm 12)) (sSeq (sAsg (eCall F__law_begins (aCons (eVar 12) (aCons (eVar 4) aNil))) (gNm 13)) (sSeq (sFor (iOf (eTup (aCons (eVar 13) (aCons (eCall F__law_earlier (aCons (eVar 1) (aCons (eVar 13) aNil))) (aCons (eVar 11) aNil)))) kSeq) (gNm 14) g_law_4) (sSeq (sFor (iOf (eTup (aCons (eC (.int 1)) (aCons (eVar 3) (aCons (eBin gAdd (eC (.int 1)) (eCall F__law_next (aCons (eVar 1) (aCons (eC (.int 20)) aNil)))) aNil)))) kSeq) (gNm 15) g_law_5) (sIf (tOrB (tNotB (bVal (eCall F__law_asked (aCons (eC (.int 1)) (aCons (eVar 12) (aCons (eVar 4) (aCons (eC .non) aNil))))))) (tNotB (bVal (eCall F__law_asked (aCons (eC (.int 4)) (aCons (eVar 12) (aCons (eVar 4) (aCons (eBin gAdd (eC (.int 1)) (eCall F__law_next (aCons (eVar 1) (aCons (eC (.int 20)) aNil)))) aNil)))))))) (sRet (eC (.bl false))) sNil)))))
def g_law : Ev → Gp → SR := (sSeq (sAsg (eCall F__law_draws (aCons (eVar 0) aNil)) (gNm 1)) (sSeq (sAsg (eCall F__law_prices (aCons (eVar 1) aNil)) (gNm 2)) (sSeq (sAsg (eBin gAdd (eC (.int 1)) (eCall F__law_next (aCons (eVar 1) (aCons (eCall bMin2 (aCons (eC (.int 6)) (aCons (eCall bLen (aCons (eVar 2) aNil)) aNil))) aNil)))) (gNm 3)) (sSeq (sAsg (eBin gAdd (eC (.int 1)) (eCall F__law_next (aCons (eVar 1) (aCons (eC (.int 20)) aNil)))) (gNm 4)) (sSeq (sAsg (eCall F__law_heaps (aCons (eVar 2) aNil)) (gNm 5)) (sSeq (sAsg (eCall F__law_rest (aCons (eVar 5) aNil)) (gNm 6)) (sSeq (sIf (tNotB (bVal (eCall F__law_cut_right (aCons (eVar 2) (aCons (eVar 5) (aCons (eVar 6) (aCons (eVar 3) aNil))))))) (sRet (eC (.bl false))) sNil) (sSeq (sAsg (eCall F__law_first (aCons (eVar 5) (aCons (eVar 6) (aCons (eVar 3) aNil)))) (gNm 7)) (sSeq (sAsg (eLst (aCons (eVar 7) aNil)) (gNm 8)) (sSeq (sFor (iOfs (aCons (eC (.int 8)) aNil) kRng1) (gNm 9) g_law_1) (sSeq (sIf (tOrB (bVal (eBin gLt (eCall bLen (aCons (eVar 2) aNil)) (eC (.int 8)))) (bVal (eBin gLt (eVar 3) (eC (.int 3))))) g_law_2 sNil) (sSeq (sFor (iOf (eVar 8) kSeq) (gNm 10) g_law_3) (sSeq (sAsg (eCall F__law_begins (aCons (eCall F__law_sums (aCons (eVar 5) (aCons (eBin gIdx (eVar 8) (eCall F__law_next (aCons (eVar 1) (aCons (eCall bLen (aCons (eVar 8) aNil)) aNil)))) aNil))) (aCons (eVar 4) aNil))) (gNm 11)) (sSeq (sFor (iOf (eTup (aCons (eVar 7) (aCons (eBin gIdx (eVar 8) (eCall F__law_next (aCons (eVar 1) (aCons (eCall bLen (aCons (eVar 8) aNil)) aNil)))) aNil))) kSeq) (gNm 10) g_law_6) (sRet (eC (.bl true)))))))))))))))))
def F_law : List U → Gp → R U := defF 1 16 g_law
theorem ar_law : Ar 1 F_law := ar_defF
theorem run_law (x0 : U) (G : Gp) : F_law [x0] G = fin (g_law [some x0, none, none, none, none, none, none, none, none, none, none, none, none, none, none, none] G) := defF_eq rfl G rfl
end K09

set_option Elab.async false
set_option linter.all false
set_option maxRecDepth 100000
set_option maxHeartbeats 4000000
set_option autoImplicit false
/-! cuts of a row: plain -/
namespace K09
def PosR (row : List Int) : Prop := ∀ c ∈ row, 1 ≤ c
/-- new stages behind one with so much left -/
def gr (top : Int) : Int → List Int → Nat
  | _, [] => 0
  | left, c :: r => if c ≤ left then gr top (left - c) r else 1 + gr top (top - c) r
def need (row : List Int) (top : Int) : Nat := gr top 0 row
theorem gr_mono {top : Int} : ∀ {row : List Int}, (∀ c ∈ row, 1 ≤ c ∧ c ≤ top) → ∀ {a b : Int}, a ≤ b → b ≤ top → gr top b row ≤ gr top a row ∧ gr top a row ≤ 1 + gr top b row
  | [], _, _, _, _, _ => ⟨Nat.le_refl _, by unfold gr; omega⟩
  | c :: r, h, a, b, hab, hb => by
    have hc := h c List.mem_cons_self
    have hr : ∀ c ∈ r, 1 ≤ c ∧ c ≤ top := fun c hc => h c (List.mem_cons_of_mem _ hc)
    unfold gr
    by_cases h1 : c ≤ a
    · rw [if_pos h1, if_pos (by omega)]
      exact gr_mono hr (by omega) (by omega)
    · by_cases h2 : c ≤ b
      · rw [if_neg h1, if_pos h2]
        have := gr_mono hr (a := b - c) (b := top - c) (by omega) (by omega)
        omega
      · rw [if_neg h1, if_neg h2]
        omega
theorem sum_nonneg {p : List Int} (h : PosR p) : 0 ≤ p.sum := by
  induction p with
  | nil => simp
  | cons d t ih =>
    have := ih (fun c hc => h c (List.mem_cons_of_mem _ hc))
    have := h d List.mem_cons_self
    simp; omega
theorem gr_cons {top left c : Int} {r : List Int} : gr top left (c :: r) = if c ≤ left then gr top (left - c) r else 1 + gr top (top - c) r := by rw [gr]
theorem gr_app {top : Int} {rest : List Int} : ∀ {p : List Int}, PosR p → ∀ {left : Int}, p.sum ≤ left → gr top left (p ++ rest) = gr top (left - p.sum) rest
  | [], _, left, _ => by simp
  | c :: r, h, left, hs => by
    have hr : PosR r := fun c hc => h c (List.mem_cons_of_mem _ hc)
    have hp := sum_nonneg hr
    rw [List.sum_cons] at hs ⊢
    rw [List.cons_append, gr_cons, if_pos (by omega), gr_app hr (by omega)]
    congr 1
    omega
theorem len_le_sum {p : List Int} (h : PosR p) : (p.length : Int) ≤ p.sum := by
  induction p with
  | nil => simp
  | cons d t ih =>
    have := ih (fun c hc => h c (List.mem_cons_of_mem _ hc))
    have := h d List.mem_cons_self
    simp; omega
/-- parts that keep the bound -/
def Pts (top : Int) (ps : List (List Int)) : Prop := ∀ p ∈ ps, p ≠ [] ∧ p.sum ≤ top
theorem posR_flat {ps : List (List Int)} (h : PosR ps.flatten) : ∀ p ∈ ps, PosR p := fun p hp c hc => h c (List.mem_flatten.mpr ⟨p, hp, hc⟩)
theorem mem_le_top {top : Int} {p : List Int} (h : PosR p) (hs : p.sum ≤ top) : ∀ c ∈ p, 1 ≤ c ∧ c ≤ top := by
  induction p generalizing top with
  | nil => intro c hc; simp at hc
  | cons d t ih =>
    have ht : PosR t := fun c hc => h c (List.mem_cons_of_mem _ hc)
    have h0 := sum_nonneg ht
    have hd := h d List.mem_cons_self
    simp at hs
    intro c hc
    rcases List.mem_cons.mp hc with e | e
    · rw [e]; omega
    · exact ih (top := top) ht (by omega) c e
/-- the greedy way is the least -/
theorem need_le {top : Int} : ∀ {ps : List (List Int)}, Pts top ps → PosR ps.flatten → need ps.flatten top ≤ ps.length
  | [], _, _ => by simp [need, gr]
  | p :: ps, h, hp => by
    have hpp := h p List.mem_cons_self
    have pos : PosR p := posR_flat hp p List.mem_cons_self
    have hps : PosR ps.flatten := fun c hc => hp c (by simp at hc ⊢; exact Or.inr hc)
    have ht : Pts top ps := fun q hq => h q (List.mem_cons_of_mem _ hq)
    have ih := need_le ht hps
    have hall : ∀ c ∈ ps.flatten, 1 ≤ c ∧ c ≤ top := fun c hc => by
      obtain ⟨q, hq, hcq⟩ := List.mem_flatten.mp hc
      exact mem_le_top (posR_flat hps q hq) (ht q hq).2 c hcq
    unfold need at ih ⊢
    match p, hpp, pos with
    | c :: t, hpp, pos =>
      have hc := pos c List.mem_cons_self
      have ptt : PosR t := fun c hc => pos c (List.mem_cons_of_mem _ hc)
      have hs : c + t.sum ≤ top := by simpa using hpp.2
      have h0 := sum_nonneg ptt
      rw [List.flatten_cons, List.cons_append]
      unfold gr
      rw [if_neg (by omega), gr_app ptt (by omega)]
      have := (gr_mono hall (a := 0) (b := top - c - t.sum) (by omega) (by omega)).1
      simp
      omega
theorem gr_parts {top : Int} : ∀ {row : List Int}, (∀ c ∈ row, 1 ≤ c ∧ c ≤ top) → ∀ {left : Int}, 0 ≤ left → ∃ q ps, row = q ++ ps.flatten ∧ q.sum ≤ left ∧ ps.length = gr top left row ∧ Pts top ps
  | [], _, left, hl => ⟨[], [], rfl, by simpa using hl, rfl, fun p hp => by simp at hp⟩
  | c :: r, h, left, hl => by
    have hc := h c List.mem_cons_self
    have hr : ∀ c ∈ r, 1 ≤ c ∧ c ≤ top := fun c hc => h c (List.mem_cons_of_mem _ hc)
    unfold gr
    by_cases h1 : c ≤ left
    · rw [if_pos h1]
      obtain ⟨q, ps, e1, e2, e3, e4⟩ := gr_parts hr (left := left - c) (by omega)
      exact ⟨c :: q, ps, by rw [e1]; rfl, by simp; omega, e3, e4⟩
    · rw [if_neg h1]
      obtain ⟨q, ps, e1, e2, e3, e4⟩ := gr_parts hr (left := top - c) (by omega)
      refine ⟨[], (c :: q) :: ps, by rw [e1]; simp, by simpa using hl, by simp [e3]; omega, fun p hp => ?_⟩
      rcases List.mem_cons.mp hp with e | e
      · rw [e]; exact ⟨List.cons_ne_nil _ _, by simp; omega⟩
      · exact e4 p e
theorem need_parts {top : Int} {row : List Int} (h : ∀ c ∈ row, 1 ≤ c ∧ c ≤ top) : ∃ ps, row = ps.flatten ∧ ps.length = need row top ∧ Pts top ps := by
  obtain ⟨q, ps, e1, e2, e3, e4⟩ := gr_parts h (left := 0) (Int.le_refl _)
  match q, e1, e2 with
  | [], e1, e2 => exact ⟨ps, e1, e3, e4⟩
  | c :: t, e1, e2 =>
    have pos : PosR (c :: t) := fun d hd => (h d (by rw [e1]; exact List.mem_append_left _ hd)).1
    have := len_le_sum pos
    simp at this e2
    omega
/-- one part more -/
theorem split_one {top : Int} : ∀ {ps : List (List Int)}, Pts top ps → PosR ps.flatten → ps.length < ps.flatten.length → ∃ qs, qs.flatten = ps.flatten ∧ qs.length = ps.length + 1 ∧ Pts top qs
  | [], _, _, h => by simp at h
  | p :: ps, h, hp, hl => by
    have hpp := h p List.mem_cons_self
    have ht : Pts top ps := fun q hq => h q (List.mem_cons_of_mem _ hq)
    have pos : PosR p := posR_flat hp p List.mem_cons_self
    have hps : PosR ps.flatten := fun c hc => hp c (by simp at hc ⊢; exact Or.inr hc)
    match p, hpp, pos with
    | [c], hpp, pos =>
      obtain ⟨qs, e1, e2, e3⟩ := split_one ht hps (by simp at hl ⊢; omega)
      refine ⟨[c] :: qs, by simp at e1 ⊢; exact e1, by simp [e2], fun q hq => ?_⟩
      rcases List.mem_cons.mp hq with e | e
      · rw [e]; exact hpp
      · exact e3 q e
    | c :: d :: t, hpp, pos =>
      have hc := pos c List.mem_cons_self
      have p2 : PosR (d :: t) := fun c hc => pos c (List.mem_cons_of_mem _ hc)
      have h0 := len_le_sum p2
      have hs : c + (d :: t).sum ≤ top := by simpa using hpp.2
      refine ⟨[c] :: (d :: t) :: ps, by simp, by simp, fun q hq => ?_⟩
      rcases List.mem_cons.mp hq with e | e
      · rw [e]; refine ⟨List.cons_ne_nil _ _, ?_⟩
        simp at h0 ⊢; simp at hs; omega
      · rcases List.mem_cons.mp e with e | e
        · rw [e]; exact ⟨List.cons_ne_nil _ _, by omega⟩
        · exact ht q e
theorem split_to {top : Int} {row : List Int} (hp : PosR row) : ∀ (m : Nat) {ps : List (List Int)}, Pts top ps → ps.flatten = row → ps.length + m ≤ row.length → ∃ qs, qs.flatten = row ∧ qs.length = ps.length + m ∧ Pts top qs
  | 0, ps, h, e, _ => ⟨ps, e, rfl, h⟩
  | m + 1, ps, h, e, hl => by
    obtain ⟨qs, e1, e2, e3⟩ := split_one h (by rw [e]; exact hp) (by rw [e]; omega)
    obtain ⟨rs, f1, f2, f3⟩ := split_to hp m e3 (e1.trans e) (by omega)
    exact ⟨rs, f1, by omega, f3⟩
/-- can be cut into s parts -/
def Cut (top : Int) : Nat → List Int → Prop
  | 0, row => row = []
  | s + 1, row => ∃ e, 1 ≤ e ∧ e ≤ row.length ∧ (row.take e).sum ≤ top ∧ Cut top s (row.drop e)
theorem cut_iff_parts {top : Int} : ∀ {s : Nat} {row : List Int}, Cut top s row ↔ ∃ ps, ps.flatten = row ∧ ps.length = s ∧ Pts top ps
  | 0, row => ⟨fun h => ⟨[], h.symm, rfl, fun p hp => by simp at hp⟩, fun ⟨ps, e, hl, _⟩ => by
    have : ps = [] := List.length_eq_zero_iff.mp hl
    subst this; exact e.symm⟩
  | s + 1, row => ⟨fun ⟨e, h1, h2, h3, h4⟩ => by
      obtain ⟨ps, e1, e2, e3⟩ := cut_iff_parts.mp h4
      refine ⟨row.take e :: ps, by rw [List.flatten_cons, e1, List.take_append_drop], by simp [e2], fun p hp => ?_⟩
      rcases List.mem_cons.mp hp with q | q
      · rw [q]; refine ⟨fun z => ?_, h3⟩
        have := congrArg List.length z
        rw [List.length_take] at this
        simp only [List.length_nil] at this; omega
      · exact e3 p q, fun ⟨ps, e, hl, hp⟩ => by
      match ps, e, hl, hp with
      | p :: ps, e, hl, hp =>
        have hpp := hp p List.mem_cons_self
        refine ⟨p.length, List.length_pos_iff.mpr hpp.1, by rw [← e]; simp, by rw [← e]; simp; exact hpp.2, cut_iff_parts.mpr ⟨ps, by rw [← e]; simp, by simpa using hl, fun q hq => hp q (List.mem_cons_of_mem _ hq)⟩⟩⟩
theorem cut_iff {top : Int} {s : Nat} {row : List Int} (h : ∀ c ∈ row, 1 ≤ c ∧ c ≤ top) : Cut top s row ↔ need row top ≤ s ∧ s ≤ row.length := by
  have hp : PosR row := fun c hc => (h c hc).1
  rw [cut_iff_parts]
  constructor
  · rintro ⟨ps, e, hl, hq⟩
    refine ⟨by rw [← e, ← hl]; exact need_le hq (by rw [e]; exact hp), ?_⟩
    rw [← e, ← hl]
    clear e hl
    induction ps with
    | nil => simp
    | cons p ps ih =>
      have := ih (fun q hq' => hq q (List.mem_cons_of_mem _ hq'))
      have := List.length_pos_iff.mpr (hq p List.mem_cons_self).1
      simp at *; omega
  · rintro ⟨h1, h2⟩
    obtain ⟨ps, e1, e2, e3⟩ := need_parts h
    obtain ⟨qs, f1, f2, f3⟩ := split_to hp (s - need row top) e3 e1.symm (by omega)
    exact ⟨qs, f1, by omega, f3⟩
theorem need_mono {row : List Int} {t t' : Int} (h : ∀ c ∈ row, 1 ≤ c ∧ c ≤ t) (ht : t ≤ t') : need row t' ≤ need row t := by
  obtain ⟨ps, e1, e2, e3⟩ := need_parts h
  rw [← e2]
  have : need ps.flatten t' ≤ ps.length := need_le (fun p hp => ⟨(e3 p hp).1, Int.le_trans (e3 p hp).2 ht⟩) (by rw [← e1]; exact fun c hc => (h c hc).1)
  rw [← e1] at this
  exact this
end K09

set_option Elab.async false
set_option linter.all false
set_option maxRecDepth 100000
set_option maxHeartbeats 4000000
set_option autoImplicit false
/-! begins of items: plain -/
namespace K09
/-- the begin of item i at stage s; n stages, at most r items under way -/
def B (t : Nat → Int) (n r : Nat) (i s : Nat) : Int :=
  match s with
  | 0 => if h : i = 0 then 0 else max (if h2 : 0 < r ∧ r ≤ i then B t n r (i - r) (n - 1) + t (n - 1) else 0) (B t n r (i - 1) 0 + t 0)
  | s + 1 => if h : i = 0 then B t n r i s + t s else max (B t n r i s + t s) (B t n r (i - 1) (s + 1) + t (s + 1))
termination_by (i, s)
decreasing_by
  · exact Prod.Lex.left _ _ (by omega)
  · exact Prod.Lex.left _ _ (by omega)
  · exact Prod.Lex.right _ (by omega)
  · exact Prod.Lex.right _ (by omega)
  · exact Prod.Lex.left _ _ (by omega)
section
variable {t : Nat → Int} {n r : Nat}
/-- when an item may come in -/
def st (t : Nat → Int) (n r : Nat) (i : Nat) : Int := if 0 < r ∧ r ≤ i then B t n r (i - r) (n - 1) + t (n - 1) else 0
theorem B_00 : B t n r 0 0 = 0 := by rw [B]; simp
theorem B_0s (s : Nat) : B t n r 0 (s + 1) = B t n r 0 s + t s := by
  conv => lhs; rw [B]
  simp
theorem B_i0 (i : Nat) : B t n r (i + 1) 0 = max (st t n r (i + 1)) (B t n r i 0 + t 0) := by
  conv => lhs; rw [B]
  unfold st
  simp
theorem B_is (i s : Nat) : B t n r (i + 1) (s + 1) = max (B t n r (i + 1) s + t s) (B t n r i (s + 1) + t (s + 1)) := by
  conv => lhs; rw [B]
  simp
theorem B_ge_i (i s : Nat) : B t n r i s + t s ≤ B t n r (i + 1) s := by
  cases s with
  | zero => rw [B_i0]; omega
  | succ s => rw [B_is]; omega
theorem B_ge_s (i s : Nat) : B t n r i s + t s ≤ B t n r i (s + 1) := by
  cases i with
  | zero => rw [B_0s]; omega
  | succ i => rw [B_is]; omega
theorem B_ge_st {i : Nat} (hi : 0 < i) : st t n r i ≤ B t n r i 0 := by
  obtain ⟨j, rfl⟩ : ∃ j, i = j + 1 := ⟨i - 1, by omega⟩
  rw [B_i0]; omega
variable (ht : ∀ s, s < n → 1 ≤ t s)
include ht
theorem B_0_nn : ∀ s, s < n → 0 ≤ B t n r 0 s
  | 0, _ => by rw [B_00]; omega
  | s + 1, h => by
    have := B_0_nn s (by omega)
    have := ht s (by omega)
    rw [B_0s]; omega
theorem B_nn {s : Nat} (hs : s < n) : ∀ i, 0 ≤ B t n r i s
  | 0 => B_0_nn ht s hs
  | i + 1 => by
    have := B_nn hs i
    have := ht s hs
    have := B_ge_i (t := t) (n := n) (r := r) i s
    omega
theorem B_lt {s : Nat} (hs : s < n) : ∀ {i j : Nat}, i < j → B t n r i s + t s ≤ B t n r j s := by
  intro i j h
  induction j with
  | zero => omega
  | succ j ih =>
    have h1 := B_ge_i (t := t) (n := n) (r := r) j s
    have := ht s hs
    by_cases e : i = j
    · rw [e]; exact h1
    · have := ih (by omega); omega
theorem B_mono {s : Nat} (hs : s < n) {i j : Nat} (h : i ≤ j) : B t n r i s ≤ B t n r j s := by
  by_cases e : i = j
  · rw [e]; exact Int.le_refl _
  · have := B_lt (r := r) ht hs (i := i) (j := j) (by omega)
    have := ht s hs
    omega
/-- nothing begins in between -/
theorem no_gap {m : Nat} {T T' : Int} (h0 : 0 ≤ T) (h : ∀ i s, i < m → s < n → B t n r i s ≤ T → B t n r i s + t s ≤ T ∨ T' ≤ B t n r i s + t s) :
    ∀ i, i < m → ∀ s, s < n → B t n r i s ≤ T ∨ T' ≤ B t n r i s := by
  intro i
  induction i using Nat.strongRecOn with
  | _ i ih =>
    intro hi
    have up : ∀ j q, j < m → q < n → (B t n r j q ≤ T ∨ T' ≤ B t n r j q) → B t n r j q + t q ≤ T ∨ T' ≤ B t n r j q + t q := fun j q hj hq hh => by
      rcases hh with hh | hh
      · exact h j q hj hq hh
      · have := ht q hq; right; omega
    cases i with
    | zero =>
      intro s
      induction s with
      | zero => intro hs; rw [B_00]; left; exact h0
      | succ s ihs =>
        intro hs
        rw [B_0s]
        exact up 0 s hi (by omega) (ihs (by omega))
    | succ i =>
      intro s
      induction s with
      | zero =>
        intro hs
        rw [B_i0]
        have h1 := up i 0 (by omega) hs (ih i (by omega) (by omega) 0 hs)
        have h2 : st t n r (i + 1) ≤ T ∨ T' ≤ st t n r (i + 1) := by
          unfold st
          by_cases c : 0 < r ∧ r ≤ i + 1
          · rw [if_pos c]
            exact up (i + 1 - r) (n - 1) (by omega) (by omega) (ih (i + 1 - r) (by omega) (by omega) (n - 1) (by omega))
          · rw [if_neg c]; left; exact h0
        omega
      | succ s ihs =>
        intro hs
        rw [B_is]
        have h1 := up i (s + 1) (by omega) hs (ih i (by omega) (by omega) (s + 1) hs)
        have h2 := up (i + 1) s hi (by omega) (ihs (by omega))
        omega
/-! ### the play -/
/-- what has begun: below T, up to T -/
def Kt (t : Nat → Int) (n r m : Nat) (T : Int) (k s : Nat) : Prop := k ≤ m ∧ ∀ i, i < m → (i < k ↔ B t n r i s < T)
theorem ready_step {m s k : Nat} {T : Int} (hs : s < n) (h : Kt t n r m T k s) (hr : k < m ∧ B t n r k s ≤ T) : Kt t n r m (T + 1) (k + 1) s ∧ B t n r k s = T := by
  obtain ⟨h1, h2⟩ := h
  have e : ¬ B t n r k s < T := fun z => by have := (h2 k hr.1).mpr z; omega
  have e : B t n r k s = T := by omega
  refine ⟨⟨by omega, fun i hi => ⟨fun hk => ?_, fun hB => ?_⟩⟩, e⟩
  · have := B_mono (r := r) ht hs (i := i) (j := k) (by omega)
    omega
  · by_cases z : k < i
    · have := B_lt (r := r) ht hs z
      have := ht s hs
      omega
    · omega
theorem wait_step {m s k : Nat} {T : Int} (hs : s < n) (h : Kt t n r m T k s) (hr : ¬ (k < m ∧ B t n r k s ≤ T)) : Kt t n r m (T + 1) k s := by
  obtain ⟨h1, h2⟩ := h
  refine ⟨h1, fun i hi => ⟨fun hk => ?_, fun hB => ?_⟩⟩
  · have := (h2 i hi).mp hk; omega
  · by_cases z : i < k
    · exact z
    · exfalso
      have := B_mono (r := r) ht hs (i := k) (j := i) (by omega)
      exact hr ⟨by omega, by omega⟩
/-- the number that are out -/
def Out (t : Nat → Int) (n r m : Nat) (T : Int) (o : Nat) : Prop := o ≤ m ∧ ∀ i, i < m → (i < o ↔ B t n r i (n - 1) + t (n - 1) ≤ T)
/-- when the next item of a stage is ready -/
theorem ready_iff {m s k : Nat} {T : Int} {o kp : Nat} (hr : 0 < r) (h0 : 0 ≤ T) (hs : s < n) (h : Kt t n r m T k s) (ho : Out t n r m T o) (hp : 0 < s → Kt t n r m (T + 1) kp (s - 1)) :
    (k < m ∧ B t n r k s ≤ T) ↔ (k < m ∧ (0 < k → B t n r (k - 1) s + t s ≤ T) ∧ (s = 0 → (k : Int) - o < r) ∧ (0 < s → k < kp ∧ B t n r k (s - 1) + t (s - 1) ≤ T)) := by
  constructor
  · intro ⟨hk, hB⟩
    refine ⟨hk, fun k0 => ?_, fun s0 => ?_, fun s0 => ?_⟩
    · have := B_lt (r := r) ht hs (i := k - 1) (j := k) (by omega); omega
    · subst s0
      by_cases c : r ≤ k
      · have h1 := B_ge_st (t := t) (n := n) (r := r) (i := k) (by omega)
        unfold st at h1
        rw [if_pos ⟨hr, c⟩] at h1
        have := (ho.2 (k - r) (by omega)).mpr (by omega)
        omega
      · omega
    · have e := B_ge_s (t := t) (n := n) (r := r) k (s - 1)
      have e2 : s - 1 + 1 = s := by omega
      rw [e2] at e
      have := ht (s - 1) (by omega)
      exact ⟨((hp s0).2 k hk).mpr (by omega), by omega⟩
  · intro ⟨hk, h1, h2, h3⟩
    refine ⟨hk, ?_⟩
    cases s with
    | zero =>
      cases k with
      | zero => rw [B_00]; exact h0
      | succ k =>
        rw [B_i0]
        have a := h1 (by omega)
        simp only [Nat.add_sub_cancel] at a
        have b : st t n r (k + 1) ≤ T := by
          unfold st
          by_cases c : 0 < r ∧ r ≤ k + 1
          · rw [if_pos c]
            have := h2 rfl
            exact (ho.2 (k + 1 - r) (by omega)).mp (by omega)
          · rw [if_neg c]; exact h0
        omega
    | succ s =>
      have c := (h3 (by omega)).2
      simp only [Nat.add_sub_cancel] at c
      cases k with
      | zero => rw [B_0s]; exact c
      | succ k =>
        rw [B_is]
        have a := h1 (by omega)
        simp only [Nat.add_sub_cancel] at a
        omega
/-- the next tick -/
theorem next_tick {m : Nat} {T T' : Int} {k : Nat → Nat} (h0 : 0 ≤ T) (hlt : T < T') (hk : ∀ s, s < n → Kt t n r m (T + 1) (k s) s)
    (hT : ∀ s, s < n → 0 < k s → B t n r (k s - 1) s + t s ≤ T ∨ T' ≤ B t n r (k s - 1) s + t s) : ∀ s, s < n → Kt t n r m T' (k s) s := by
  have key := no_gap (r := r) (m := m) (T' := T') ht h0 (fun i s hi hs hB => by
    have hik := ((hk s hs).2 i hi).mpr (by omega)
    by_cases c : i = k s - 1
    · rw [c]; exact hT s hs (by omega)
    · left
      have := B_lt (r := r) ht hs (i := i) (j := k s - 1) (by omega)
      have hk1 := ((hk s hs).2 (k s - 1) (by have := (hk s hs).1; omega)).mp (by omega)
      omega)
  intro s hs
  refine ⟨(hk s hs).1, fun i hi => ⟨fun h => ?_, fun h => ?_⟩⟩
  · have := ((hk s hs).2 i hi).mp h; omega
  · refine ((hk s hs).2 i hi).mpr ?_
    have := key i hi s hs
    omega
/-- all is done -/
theorem all_done {m : Nat} {T : Int} {k : Nat → Nat} (h0 : 0 ≤ T) (hk : ∀ s, s < n → Kt t n r m (T + 1) (k s) s)
    (hT : ∀ s, s < n → 0 < k s → B t n r (k s - 1) s + t s ≤ T) : ∀ i, i < m → ∀ s, s < n → B t n r i s + t s ≤ T := by
  have hall : ∀ i s, i < m → s < n → B t n r i s ≤ T → B t n r i s + t s ≤ T := fun i s hi hs hB => by
    have hik := ((hk s hs).2 i hi).mpr (by omega)
    by_cases c : i = k s - 1
    · rw [c]; exact hT s hs (by omega)
    · have := B_lt (r := r) ht hs (i := i) (j := k s - 1) (by omega)
      have hk1 := ((hk s hs).2 (k s - 1) (by have := (hk s hs).1; omega)).mp (by omega)
      omega
  intro i hi s hs
  refine hall i s hi hs ?_
  have := no_gap (m := m) (T' := B t n r i s + 1) ht h0 (fun i s hi hs hB => Or.inl (hall i s hi hs hB)) i hi s hs
  omega
omit ht
/-! counting the ends that are to come -/
def ends (t : Nat → Int) (n r m : Nat) : List Int := (List.range m).flatMap fun i => (List.range n).map fun s => B t n r i s + t s
theorem ends_len {m : Nat} : (ends t n r m).length = m * n := by
  unfold ends
  induction m with
  | zero => simp
  | succ m ih => rw [List.range_succ, List.flatMap_append, List.length_append, ih]; simp [Nat.succ_mul]
theorem ends_mem {m i s : Nat} (hi : i < m) (hs : s < n) : B t n r i s + t s ∈ ends t n r m := by
  unfold ends
  rw [List.mem_flatMap]
  exact ⟨i, List.mem_range.mpr hi, List.mem_map.mpr ⟨s, List.mem_range.mpr hs, rfl⟩⟩
def left (t : Nat → Int) (n r m : Nat) (T : Int) : Nat := (ends t n r m).countP fun e => decide (T < e)
theorem count_lt {T T' : Int} (h : T < T') : ∀ l : List Int, l.countP (fun e => decide (T' < e)) ≤ l.countP (fun e => decide (T < e))
  | [] => by simp
  | x :: l => by
    have := count_lt h l
    rw [List.countP_cons, List.countP_cons]
    by_cases c : T' < x
    · have c2 : T < x := by omega
      simp [c, c2]; omega
    · simp [c]; omega
theorem count_lt2 {T T' : Int} (h : T < T') : ∀ l : List Int, T' ∈ l → l.countP (fun e => decide (T' < e)) < l.countP (fun e => decide (T < e))
  | [], hm => by simp at hm
  | x :: l, hm => by
    rw [List.countP_cons, List.countP_cons]
    rcases List.mem_cons.mp hm with e | e
    · have := count_lt h l
      have c : ¬ T' < x := by omega
      have c2 : T < x := by omega
      simp only [c, c2, decide_false, decide_true, if_true, Bool.false_eq_true, if_false]
      omega
    · have := count_lt2 h l e
      by_cases c : T' < x
      · have c2 : T < x := by omega
        simp only [c, c2, decide_true, if_true]; omega
      · simp only [c, decide_false, Bool.false_eq_true, if_false]; omega
theorem left_le {m : Nat} {T : Int} : left t n r m T ≤ m * n := by
  rw [← ends_len (t := t) (n := n) (r := r)]
  exact List.countP_le_length
theorem left_lt {m i s : Nat} {T T' : Int} (hi : i < m) (hs : s < n) (h : T < T') (e : T' = B t n r i s + t s) : left t n r m T' < left t n r m T := count_lt2 h _ (by rw [e]; exact ends_mem hi hs)
theorem left_zero {m : Nat} {T : Int} (h : left t n r m T = 0) {i s : Nat} (hi : i < m) (hs : s < n) : B t n r i s + t s ≤ T := by
  unfold left at h
  rw [List.countP_eq_zero] at h
  have := h _ (ends_mem hi hs)
  simpa using this
theorem left_none {m : Nat} {T : Int} (h : ∀ i, i < m → ∀ s, s < n → B t n r i s + t s ≤ T) : left t n r m T = 0 := by
  unfold left
  rw [List.countP_eq_zero]
  intro e he
  unfold ends at he
  obtain ⟨i, hi, he⟩ := List.mem_flatMap.mp he
  obtain ⟨s, hs, rfl⟩ := List.mem_map.mp he
  have := h i (List.mem_range.mp hi) s (List.mem_range.mp hs)
  simp; exact this
/-! the last end by the sum of the times -/
def pre (t : Nat → Int) : Nat → Int
  | 0 => 0
  | s + 1 => pre t s + t s
theorem B_0_pre : ∀ s, B t n r 0 s = pre t s
  | 0 => B_00
  | s + 1 => by rw [B_0s, B_0_pre s]; rfl
theorem pre_le {M : Int} : ∀ s, (∀ q, q < s → t q ≤ M) → pre t s ≤ s * M
  | 0, _ => by simp [pre]
  | s + 1, h => by
    have h1 := pre_le s (fun q hq => h q (by omega))
    have h2 := h s (by omega)
    have e : ((s + 1 : Nat) : Int) * M = s * M + M := by rw [Int.natCast_add, Int.add_mul]; simp
    rw [e]
    unfold pre
    omega
theorem B_up {m : Nat} {M : Int} (hM : ∀ q, q < n → t q ≤ M) (hM0 : 0 ≤ M) (hn : 0 < n) (hr : n ≤ r ∨ m ≤ r) : ∀ i, i < m → ∀ s, s < n → B t n r i s ≤ pre t s + i * M := by
  intro i
  induction i using Nat.strongRecOn with
  | _ i ih =>
    intro hi
    cases i with
    | zero => intro s hs; rw [B_0_pre]; simp
    | succ i =>
      have e : ((i + 1 : Nat) : Int) * M = i * M + M := by rw [Int.natCast_add, Int.add_mul]; simp
      have hiM : 0 ≤ (i : Int) * M := Int.mul_nonneg (by omega) hM0
      rw [e]
      intro s
      induction s with
      | zero =>
        intro hs
        rw [B_i0]
        have h1 := ih i (by omega) (by omega) 0 hs
        have h2 := hM 0 hs
        have h3 : st t n r (i + 1) ≤ i * M + M := by
          unfold st
          by_cases c : 0 < r ∧ r ≤ i + 1
          · rw [if_pos c]
            have h4 := ih (i + 1 - r) (by omega) (by omega) (n - 1) (by omega)
            have h5 : pre t (n - 1) + t (n - 1) = pre t n := by
              obtain ⟨n', rfl⟩ : ∃ n', n = n' + 1 := ⟨n - 1, by omega⟩
              rfl
            have h6 := pre_le (t := t) (M := M) n hM
            have h7 : (n : Int) * M ≤ r * M := Int.mul_le_mul_of_nonneg_right (by omega) hM0
            have h8 : ((i + 1 - r : Nat) : Int) * M = ((i : Int) + 1 - r) * M := by congr 1; omega
            rw [h8, Int.sub_mul, Int.add_mul] at h4
            omega
          · rw [if_neg c]; omega
        simp only [pre] at h1 ⊢
        omega
      | succ s ihs =>
        intro hs
        rw [B_is]
        have h1 := ih i (by omega) (by omega) (s + 1) hs
        have h2 := ihs (by omega)
        have h3 := hM (s + 1) hs
        have h4 : pre t (s + 1) = pre t s + t s := rfl
        omega
theorem B_low {M : Int} {q : Nat} (hq : t q = M) : ∀ i, pre t q + i * M ≤ B t n r i q
  | 0 => by rw [B_0_pre]; simp
  | i + 1 => by
    have h1 := B_low hq i
    have h2 := B_ge_i (t := t) (n := n) (r := r) i q
    have e : ((i + 1 : Nat) : Int) * M = i * M + M := by rw [Int.natCast_add, Int.add_mul]; simp
    rw [e]
    omega
theorem B_low2 {x : Int} {q i : Nat} (h : pre t q + x ≤ B t n r i q) : ∀ d, pre t (q + d) + x ≤ B t n r i (q + d)
  | 0 => h
  | d + 1 => by
    have h1 := B_low2 h d
    have h2 := B_ge_s (t := t) (n := n) (r := r) i (q + d)
    have e : pre t (q + (d + 1)) = pre t (q + d) + t (q + d) := rfl
    have e2 : q + d + 1 = q + (d + 1) := rfl
    rw [e2] at h2
    omega
theorem B_end {m q : Nat} {M : Int} (hn : 0 < n) (hm : 0 < m) (hM : ∀ q, q < n → t q ≤ M) (hM0 : 0 ≤ M) (hq : q < n) (hqM : t q = M) (hr : n ≤ r ∨ m ≤ r) :
    B t n r (m - 1) (n - 1) + t (n - 1) = pre t n + ((m : Int) - 1) * M := by
  have h1 := B_up (t := t) (n := n) (r := r) (m := m) hM hM0 hn hr (m - 1) (by omega) (n - 1) (by omega)
  have h2 := B_low2 (B_low (t := t) (n := n) (r := r) hqM (m - 1)) (n - 1 - q)
  have e : q + (n - 1 - q) = n - 1 := by omega
  rw [e] at h2
  have h5 : pre t (n - 1) + t (n - 1) = pre t n := by
    obtain ⟨n', rfl⟩ : ∃ n', n = n' + 1 := ⟨n - 1, by omega⟩
    rfl
  have h6 : ((m - 1 : Nat) : Int) = (m : Int) - 1 := by omega
  rw [h6] at h1 h2
  omega
/-! what is inside at once -/
theorem count_in (j r : Nat) : ∀ m, (List.range m).countP (fun i => decide (j < i + r ∧ i ≤ j)) ≤ min m (j + 1) - (j + 1 - r)
  | 0 => by simp
  | m + 1 => by
    have := count_in j r m
    rw [List.range_succ, List.countP_append, List.countP_cons, List.countP_nil]
    by_cases c : j < m + r ∧ m ≤ j
    · simp only [c, and_self, decide_true, if_true]; omega
    · simp only [c, decide_false, Bool.false_eq_true, if_false]; omega
theorem inside_le (ht : ∀ s, s < n → 1 ≤ t s) (hr : 0 < r) (hn : 0 < n) {m j : Nat} (p : Nat → Bool) (hp : ∀ i, i < m → p i = true → B t n r i 0 ≤ B t n r j 0 ∧ B t n r j 0 < B t n r i (n - 1) + t (n - 1)) : (List.range m).countP p ≤ r := by
  have h1 : (List.range m).countP p ≤ (List.range m).countP (fun i => decide (j < i + r ∧ i ≤ j)) := by
    apply List.countP_mono_left
    intro i hi hpi
    have ⟨h1, h2⟩ := hp i (List.mem_range.mp hi) hpi
    have hij : i ≤ j := by
      by_cases c : j < i
      · have := B_lt (r := r) ht hn c
        have := ht 0 hn
        omega
      · omega
    have hjr : j < i + r := by
      by_cases c : i + r ≤ j
      · have h3 := B_ge_st (t := t) (n := n) (r := r) (i := j) (by omega)
        unfold st at h3
        rw [if_pos ⟨hr, by omega⟩] at h3
        have := B_mono (r := r) ht (s := n - 1) (by omega) (i := i) (j := j - r) (by omega)
        omega
      · omega
    exact decide_eq_true ⟨hjr, hij⟩
  have h2 := count_in j r m
  omega
end
end K09

set_option Elab.async false
set_option linter.all false
set_option maxRecDepth 100000
set_option maxHeartbeats 4000000
set_option autoImplicit false
namespace K09
open PySem PySem.Spec L2 FL

/-! ### draws -/
theorem mPop0 {G : Gp} {l : Nat} {y : U} {ys : List U} (h : G[l]? = some (.lst (y :: ys))) : mPopAt (.ref l) [.int 0] G = .ok y (G.set l (.lst ys)) := by
  unfold mPopAt
  have e : ixN (y :: ys).length (0 : Int) = some 0 := by
    unfold ixN
    rw [if_pos (Int.le_refl 0), if_pos (by simp)]
    rfl
  simp only [h, e]
  rfl
def DrL (ds : List Int) : Prop := 2 ≤ ds.length ∧ ds.length ≤ 10000 ∧ ∀ d ∈ ds, 0 ≤ d ∧ d < 2 ^ 40
def Dr (G : Gp) : Prop := ∃ ds : List Int, DrL ds ∧ G[0]? = some (.lst (ds.map .int))
theorem small40 {d : Int} (h : 0 ≤ d ∧ d < 2 ^ 40) : d.natAbs < 2 ^ 64 := by omega
theorem set_get {G : Gp} {l : Nat} {x y : OU} (h : G[l]? = some x) : (G.set l y)[l]? = some y := List.getElem?_set_self (List.getElem?_eq_some_iff.mp h).1
theorem mod_small {i j : Int} (h : 0 < j) (h2 : j < 2 ^ 40) : 0 ≤ i % j ∧ i % j < 2 ^ 40 := ⟨Int.emod_nonneg _ (by omega), by have := Int.emod_lt_of_pos i h; omega⟩
/-- the other lists stay -/
def Oth (G G' : Gp) : Prop := G'.length = G.length ∧ ∀ l, l ≠ 0 → G'[l]? = G[l]?
theorem next_spec {G : Gp} {b : Int} (hD : Dr G) (hb : 0 < b) : ∃ r G', F__law_next [.ref 0, .int b] G = .ok (.int r) G' ∧ 0 ≤ r ∧ r < b ∧ Oth G G' ∧ Dr G' := by
  obtain ⟨ds, ⟨h2, h3, h4⟩, h⟩ := hD
  match ds, h2, h3, h4, h with
  | d :: e :: r, h2, h3, h4, h =>
    have hd := h4 d List.mem_cons_self
    obtain ⟨z, hz⟩ : ∃ z, (e :: r).getLast? = some z := ⟨(e :: r).getLast (List.cons_ne_nil _ _), List.getLast?_eq_some_getLast _⟩
    have hzm : z ∈ d :: e :: r := List.mem_cons_of_mem _ (List.mem_of_getLast? hz)
    have hzs := h4 z hzm
    have hz' : ((e :: r).map U.int).getLast? = some (.int z) := by rw [List.getLast?_map, hz]; rfl
    have p0 : mPopAt (.ref 0) [.int 0] G = .ok (.int d) (G.set 0 (.lst ((e :: r).map .int))) := mPop0 (by rw [h]; rfl)
    have g1 : (G.set 0 (.lst ((e :: r).map .int)))[0]? = some (.lst ((e :: r).map .int)) := set_get h
    generalize hG1 : G.set 0 (.lst ((e :: r).map .int)) = G1 at p0 g1
    have m1 : gMul (.int d) (.int d) G1 = .ok (.int (d * d)) G1 := gMul_ii (mulOk_small (small40 hd))
    have m2 : gMul (.int z) (.int 48271) G1 = .ok (.int (z * 48271)) G1 := gMul_ii (mulOk_small (small40 hzs))
    have i1 : gIdx (.ref 0) (.int (-1)) G1 = .ok (.int z) G1 := gIdx_ref g1 (atI_last hz')
    have m3 : gMod (.int (d * d + z * 48271 + 12345)) (.int 1000000007) G1 = .ok (.int ((d * d + z * 48271 + 12345) % 1000000007)) G1 := gMod_ii (by decide)
    have a1 : mAppend (.ref 0) [.int ((d * d + z * 48271 + 12345) % 1000000007)] G1 = .ok .non (G1.set 0 (.lst ((e :: r).map .int ++ [.int ((d * d + z * 48271 + 12345) % 1000000007)]))) := mAppend_ref g1 (by simp at h3 ⊢; omega)
    have m4 : ∀ G', gMod (.int d) (.int b) G' = .ok (.int (d % b)) G' := fun G' => gMod_ii hb
    have l0 := isLst_ref h
    have l1 := isLst_ref g1
    refine ⟨d % b, G1.set 0 (.lst ((e :: r).map .int ++ [.int ((d * d + z * 48271 + 12345) % 1000000007)])), ?_, Int.emod_nonneg _ (by omega), Int.emod_lt_of_pos _ hb, ?_, ?_⟩
    · rw [run__law_next]
      simp [g__law_next, eMeth_, l0, p0, l1, m1, m2, i1, m3, a1, m4]
    · subst hG1
      refine ⟨by simp, fun l hl => ?_⟩
      rw [List.getElem?_set_ne (Ne.symm hl), List.getElem?_set_ne (Ne.symm hl)]
    · refine ⟨(e :: r) ++ [(d * d + z * 48271 + 12345) % 1000000007], ⟨by simp, by simp at h3 ⊢; omega, fun x hx => ?_⟩, ?_⟩
      · rcases List.mem_append.mp hx with hx | hx
        · exact h4 x (List.mem_cons_of_mem _ hx)
        · rw [List.mem_singleton] at hx
          rw [hx]
          exact mod_small (by decide) (by decide)
      · rw [List.map_append]
        exact set_get g1
theorem cutU_map {α : Type} (f : α → U) (xs : List α) (lo hi : Option Int) : cutU (xs.map f) lo hi = (cutU xs lo hi).map f := by
  unfold cutU
  simp [List.map_take, List.map_drop]
theorem cutU_mem {α : Type} {xs : List α} {lo hi : Option Int} {x : α} (h : x ∈ cutU xs lo hi) : x ∈ xs := List.mem_of_mem_drop (List.mem_of_mem_take h)
theorem cutU_len {α : Type} (xs : List α) (lo hi : Option Int) : (cutU xs lo hi).length ≤ xs.length := by
  unfold cutU
  simp
  omega
/-- the draws so far -/
def Sm (ds : List Int) : Prop := ∀ d ∈ ds, 0 ≤ d ∧ d < 2 ^ 40
theorem Sm.add {ds : List Int} (h : Sm ds) {d : Int} (hd : 0 ≤ d ∧ d < 2 ^ 40) : Sm (ds ++ [d]) := fun x hx => by
  rcases List.mem_append.mp hx with hx | hx
  · exact h x hx
  · rw [List.mem_singleton] at hx; rw [hx]; exact hd
def EnvD (xs : List U) (last : Int) (a b c : Option U) : Ev := [some (.rl xs), some (.ref 0), some (.int last), a, b, c]
theorem draws_in {xs ys : List U} {last cell : Int} {b c : Option U} {ds : List Int} (hs : Sm ds) (hl : ds.length ≤ 10000 - 60) (P : SR → Prop)
    (hP : ∀ b c (ds' : List Int), Sm ds' → ds'.length ≤ ds.length + 60 → P (.nx (EnvD xs last (some (.int cell)) b c) [.lst (ds'.map .int), .lst ys])) :
    P (g__law_draws_3 (EnvD xs last (some (.int cell)) b c) [.lst (ds.map .int), .lst ys]) := by
  have e : g__law_draws_3 (EnvD xs last (some (.int cell)) b c) [.lst (ds.map .int), .lst ys] =
      sFor (iOfs (aCons (eC (.int 60)) aNil) kRng1) (gNm 5) g__law_draws_2 (EnvD xs last (some (.int cell)) (some (.int cell)) c) [.lst (ds.map .int), .lst ys] := by
    simp [g__law_draws_3, EnvD]
  rw [e]
  refine sFor_rng1 (j := 60) (G1 := [.lst (ds.map .int), .lst ys]) (fun i env G => ∃ (rest : Int) (k : Option U) (ds' : List Int), env = EnvD xs last (some (.int cell)) (some (.int rest)) k ∧ G = [.lst (ds'.map .int), .lst ys] ∧ Sm ds' ∧ ds'.length ≤ ds.length + i) P (by simp) (by decide) (by decide) ⟨cell, c, ds, rfl, rfl, hs, by omega⟩ ?_ ?_
  · rintro i hi env G ⟨rest, k, ds', rfl, rfl, h1, h2⟩
    have hi : i < 60 := hi
    by_cases hr : 0 < rest
    · have m1 : ∀ G', gMod (.int rest) (.int 1000000) G' = .ok (.int (rest % 1000000)) G' := fun G' => gMod_ii (by decide)
      have m2 : ∀ G', gFdiv (.int rest) (.int 1000000) G' = .ok (.int (rest / 1000000)) G' := fun G' => gFdiv_ii (by decide) (by decide)
      have a1 : mAppend (.ref 0) [.int (rest % 1000000)] [.lst (ds'.map .int), .lst ys] = .ok .non [.lst (ds'.map .int ++ [.int (rest % 1000000)]), .lst ys] := mAppend_ref rfl (by simp; omega)
      have l1 : isLst (.ref 0) [.lst (ds'.map .int), .lst ys] = true := rfl
      have e : g__law_draws_2 (EnvD xs last (some (.int cell)) (some (.int rest)) (some (.int (i : Nat)))) [.lst (ds'.map .int), .lst ys] = .nx (EnvD xs last (some (.int cell)) (some (.int (rest / 1000000))) (some (.int (i : Nat)))) [.lst (ds'.map .int ++ [.int (rest % 1000000)]), .lst ys] := by
        simp [g__law_draws_2, g__law_draws_1, EnvD, eMeth_, hr, m1, m2, a1, l1]
      show after (g__law_draws_2 (EnvD xs last (some (.int cell)) (some (.int rest)) (some (.int (i : Nat)))) [.lst (ds'.map .int), .lst ys]) _ P
      rw [e]
      exact ⟨rest / 1000000, _, ds' ++ [rest % 1000000], rfl, by simp, h1.add (mod_small (by decide) (by decide)), by simp; omega⟩
    · have e : g__law_draws_2 (EnvD xs last (some (.int cell)) (some (.int rest)) (some (.int (i : Nat)))) [.lst (ds'.map .int), .lst ys] = .nx (EnvD xs last (some (.int cell)) (some (.int rest)) (some (.int (i : Nat)))) [.lst (ds'.map .int), .lst ys] := by
        simp [g__law_draws_2, g__law_draws_1, EnvD, eMeth_, hr]
      show after (g__law_draws_2 (EnvD xs last (some (.int cell)) (some (.int rest)) (some (.int (i : Nat)))) [.lst (ds'.map .int), .lst ys]) _ P
      rw [e]
      exact ⟨rest, _, ds', rfl, rfl, h1, by omega⟩
  · rintro env G ⟨rest, k, ds', rfl, rfl, h1, h2⟩
    exact hP _ _ ds' h1 h2
theorem draws_spec {ns : List Int} (h1 : ns.length ≤ 63) (h2 : ∀ z ∈ ns, Builtin.Int.intBits z ≤ 1048576) : ∃ G', F__law_draws [.rl (ns.map .int)] [] = .ok (.ref 0) G' ∧ 0 < G'.length ∧ Dr G' := by
  rw [run__law_draws]
  generalize hxs : ns.map U.int = xs
  obtain ⟨ys, hys⟩ : ∃ ys, ys = cutU ns none (some 63) := ⟨_, rfl⟩
  have hcut : cutU xs none (some 63) = ys.map .int := by rw [← hxs, cutU_map, hys]
  have hyl : ys.length ≤ 63 := by have := cutU_len ns none (some 63); rw [← hys] at this; omega
  have hyb : ∀ z ∈ ys, Builtin.Int.intBits z ≤ 1048576 := fun z hz => h2 z (cutU_mem (by rw [← hys]; exact hz))
  let I1 : Nat → Ev → Gp → Prop := fun i env G => ∃ (last : Int) (a b c : Option U) (ds : List Int), env = EnvD xs last a b c ∧ G = [.lst (ds.map .int), .lst (ys.map .int)] ∧ Sm ds ∧ ds.length ≤ 60 * i ∧ 0 ≤ last ∧ last < 2 ^ 40
  let P : SR → Prop := fun r => ∃ (last : Int) (a b c : Option U) (ds : List Int), r = .nx (EnvD xs last a b c) [.lst (ds.map .int), .lst (ys.map .int)] ∧ Sm ds ∧ ds.length ≤ 60 * 63 ∧ 0 ≤ last ∧ last < 2 ^ 40
  have L1 : P (sFor (iOf (eSl (eVar 0) pNo (pInt (eC (.int 63)))) kSeq) (gNm 3) g__law_draws_5 (EnvD xs 97 none none none) [.lst []]) := by
    refine sFor_ref (l := 1) (xs := ys.map .int) (G1 := [.lst [], .lst (ys.map .int)]) I1 P (by simp [EnvD, gSl, hcut]) rfl ?_ ⟨97, none, none, none, [], rfl, rfl, fun d hd => by simp at hd, by simp, by decide, by decide⟩ ?_ ?_
    · rintro i env G ⟨last, a, b, c, ds, rfl, rfl, _⟩
      rfl
    · rintro i hi env G ⟨last, a, b, c, ds, rfl, rfl, hs, hl, hl0, hl1⟩
      have hi' : i < ys.length := by simpa using hi
      obtain ⟨cell, hcell⟩ : ∃ cell, cell = ys[i] := ⟨_, rfl⟩
      have hcb : Builtin.Int.intBits cell ≤ 1048576 := hyb _ (by rw [hcell]; exact List.getElem_mem _)
      have hget : (ys.map U.int)[i] = .int cell := by rw [List.getElem_map, hcell]
      rw [hget]
      show after (g__law_draws_5 (EnvD xs last (some (.int cell)) b c) [.lst (ds.map .int), .lst (ys.map .int)]) _ P
      have pw : ∀ G', gPow (.int 10) (.int 18) G' = .ok (.int (10 ^ 18)) G' := fun G' => rfl
      by_cases hc : (1000000000000000000 : Int) ≤ cell
      · have e : g__law_draws_5 (EnvD xs last (some (.int cell)) b c) [.lst (ds.map .int), .lst (ys.map .int)] = g__law_draws_3 (EnvD xs last (some (.int cell)) b c) [.lst (ds.map .int), .lst (ys.map .int)] := by
          simp [g__law_draws_5, EnvD, pw, hc]
        rw [e]
        exact draws_in hs (by omega) (fun r => after r (I1 (i + 1)) P) (fun b c ds' s1 s2 => ⟨last, _, b, c, ds', rfl, rfl, s1, by omega, hl0, hl1⟩)
      · have hm1 : ∀ G', gMul (.int cell) (.int cell) G' = .ok (.int (cell * cell)) G' := fun G' => gMul_ii (mulOk_bits hcb hcb)
        have hm2 : ∀ G', gMul (.int last) (.int 48271) G' = .ok (.int (last * 48271)) G' := fun G' => gMul_ii (mulOk_small2 (by decide))
        have hm3 : ∀ x G', gMod (.int x) (.int 1000000007) G' = .ok (.int (x % 1000000007)) G' := fun x G' => gMod_ii (by decide)
        have hm4 : ∀ x G', gMod (.int x) (.int 998244353) G' = .ok (.int (x % 998244353)) G' := fun x G' => gMod_ii (by decide)
        obtain ⟨t, ht⟩ : ∃ t, t = (cell * cell + cell + last * 48271 + 12345) % 1000000007 := ⟨_, rfl⟩
        have hts := mod_small (i := cell * cell + cell + last * 48271 + 12345) (j := 1000000007) (by decide) (by decide)
        rw [← ht] at hts
        have hm5 : ∀ G', gMul (.int t) (.int t) G' = .ok (.int (t * t)) G' := fun G' => gMul_ii (mulOk_small (small40 hts))
        have a1 : mAppend (.ref 0) [.int ((t * t + 69621) % 998244353)] [.lst (ds.map .int), .lst (ys.map .int)] = .ok .non [.lst (ds.map .int ++ [.int ((t * t + 69621) % 998244353)]), .lst (ys.map .int)] := mAppend_ref rfl (by simp; omega)
        have l1 : isLst (.ref 0) [.lst (ds.map .int), .lst (ys.map .int)] = true := rfl
        have e : g__law_draws_5 (EnvD xs last (some (.int cell)) b c) [.lst (ds.map .int), .lst (ys.map .int)] = .nx (EnvD xs ((t * t + 69621) % 998244353) (some (.int cell)) b c) [.lst (ds.map .int ++ [.int ((t * t + 69621) % 998244353)]), .lst (ys.map .int)] := by
          simp [g__law_draws_5, g__law_draws_4, EnvD, pw, hc, eMeth_, hm1, hm2, hm3, hm4, ← ht, hm5, a1, l1]
        rw [e]
        have sm := mod_small (i := t * t + 69621) (j := 998244353) (by decide) (by decide)
        exact ⟨_, _, b, c, ds ++ [(t * t + 69621) % 998244353], rfl, by simp, hs.add sm, by simp; omega, sm.1, sm.2⟩
    · rintro env G ⟨last, a, b, c, ds, rfl, rfl, hs, hl, hl0, hl1⟩
      refine ⟨last, a, b, c, ds, rfl, hs, ?_, hl0, hl1⟩
      simp at hl
      omega
  obtain ⟨last, a, b, c, ds, e1, hs, hl, hl0, hl1⟩ := L1
  let I2 : Nat → Ev → Gp → Prop := fun i env G => ∃ (last : Int) (a b c : Option U) (ds : List Int), env = EnvD xs last a b c ∧ G = [.lst (ds.map .int), .lst (ys.map .int)] ∧ Sm ds ∧ i ≤ ds.length ∧ ds.length ≤ 60 * 63 + i ∧ 0 ≤ last ∧ last < 2 ^ 40
  let P2 : SR → Prop := fun r => ∃ (last : Int) (a b c : Option U) (ds : List Int), r = .nx (EnvD xs last a b c) [.lst (ds.map .int), .lst (ys.map .int)] ∧ DrL ds
  have L2 : P2 (sFor (iOfs (aCons (eC (.int 16)) aNil) kRng1) (gNm 5) g__law_draws_6 (EnvD xs last a b c) [.lst (ds.map .int), .lst (ys.map .int)]) := by
    refine sFor_rng1 (j := 16) (G1 := [.lst (ds.map .int), .lst (ys.map .int)]) I2 P2 (by simp) (by decide) (by decide) ⟨last, a, b, c, ds, rfl, rfl, hs, by omega, by omega, hl0, hl1⟩ ?_ ?_
    · rintro i hi env G ⟨last, a, b, c, ds, rfl, rfl, hs, hl, hl', hl0, hl1⟩
      have hi : i < 16 := hi
      have hm2 : ∀ G', gMul (.int last) (.int last) G' = .ok (.int (last * last)) G' := fun G' => gMul_ii (mulOk_small (small40 ⟨hl0, hl1⟩))
      have hm1 : ∀ G', gMul (.int 69621) (.int (i : Nat)) G' = .ok (.int (69621 * (i : Nat))) G' := fun G' => gMul_ii (mulOk_small (by decide))
      have hm3 : ∀ x G', gMod (.int x) (.int 1000000007) G' = .ok (.int (x % 1000000007)) G' := fun x G' => gMod_ii (by decide)
      have bl : bLen [.ref 0] [.lst (ds.map .int), .lst (ys.map .int)] = .ok (.int ds.length) [.lst (ds.map .int), .lst (ys.map .int)] := by
        rw [bLen_seq (xs := ds.map .int) rfl]; simp
      obtain ⟨t, ht⟩ : ∃ t, t = (last * last + 69621 * (i : Nat) + (ds.length : Nat) + 31) % 1000000007 := ⟨_, rfl⟩
      have hts := mod_small (i := last * last + 69621 * (i : Nat) + (ds.length : Nat) + 31) (j := 1000000007) (by decide) (by decide)
      rw [← ht] at hts
      have a1 : mAppend (.ref 0) [.int t] [.lst (ds.map .int), .lst (ys.map .int)] = .ok .non [.lst (ds.map .int ++ [.int t]), .lst (ys.map .int)] := mAppend_ref rfl (by simp; omega)
      have l1 : isLst (.ref 0) [.lst (ds.map .int), .lst (ys.map .int)] = true := rfl
      have e : g__law_draws_6 (EnvD xs last a b (some (.int (i : Nat)))) [.lst (ds.map .int), .lst (ys.map .int)] = .nx (EnvD xs t a b (some (.int (i : Nat)))) [.lst (ds.map .int ++ [.int t]), .lst (ys.map .int)] := by
        simp [g__law_draws_6, EnvD, eMeth_, hm1, hm2, hm3, bl, ← ht, a1, l1]
      show after (g__law_draws_6 (EnvD xs last a b (some (.int (i : Nat)))) [.lst (ds.map .int), .lst (ys.map .int)]) _ P2
      rw [e]
      exact ⟨t, a, b, _, ds ++ [t], rfl, by simp, hs.add hts, by simp; omega, by simp; omega, hts.1, hts.2⟩
    · rintro env G ⟨last, a, b, c, ds, rfl, rfl, hs, hl, hl', hl0, hl1⟩
      have hl : 16 ≤ ds.length := hl
      have hl' : ds.length ≤ 60 * 63 + 16 := hl'
      exact ⟨last, a, b, c, ds, rfl, by omega, by omega, hs⟩
  obtain ⟨last2, a2, b2, c2, ds2, e2, hd2⟩ := L2
  refine ⟨[.lst (ds2.map .int), .lst (ys.map .int)], ?_, by simp, ds2, hd2, rfl⟩
  refine (congrArg fin (?_ : g__law_draws [some (.rl xs), none, none, none, none, none] [] = .ret (.ref 0) [.lst (ds2.map .int), .lst (ys.map .int)])).trans rfl
  unfold g__law_draws
  rw [seq_nx (G' := [.lst []]) (e' := [some (.rl xs), some (.ref 0), none, none, none, none]) (by simp), seq_nx (e' := EnvD xs 97 none none none) (G' := [.lst []]) (by simp [EnvD]), seq_nx e1, seq_nx e2]
  simp [EnvD]
end K09

set_option Elab.async false
set_option linter.all false
set_option maxRecDepth 100000
set_option maxHeartbeats 4000000
set_option autoImplicit false
namespace K09
open PySem PySem.Spec L2 FL

/-- older lists stay (but the draws) -/
def Ext (G G' : Gp) : Prop := G.length ≤ G'.length ∧ ∀ l, 0 < l → l < G.length → G'[l]? = G[l]?
theorem Ext.refl (G : Gp) : Ext G G := ⟨Nat.le_refl _, fun _ _ _ => rfl⟩
theorem Ext.trans {G G1 G2 : Gp} (a : Ext G G1) (b : Ext G1 G2) : Ext G G2 := ⟨Nat.le_trans a.1 b.1, fun l h1 h2 => (b.2 l h1 (Nat.lt_of_lt_of_le h2 a.1)).trans (a.2 l h1 h2)⟩
theorem Oth.ext {G G' : Gp} (h : Oth G G') : Ext G G' := ⟨Nat.le_of_eq h.1.symm, fun l h1 _ => h.2 l (by omega)⟩
theorem Ext.at_ {G G' : Gp} (h : Ext G G') {l : Nat} {o : OU} (hp : 0 < l) (e : G[l]? = some o) : G'[l]? = some o := (h.2 l hp (List.getElem?_eq_some_iff.mp e).1).trans e
theorem ext_push (G : Gp) (o : OU) : Ext G (G ++ [o]) := ⟨by simp, fun l _ h => List.getElem?_append_left h⟩
theorem dr_push {G : Gp} (h : Dr G) (o : OU) : Dr (G ++ [o]) := by
  obtain ⟨ds, h1, h2⟩ := h
  exact ⟨ds, h1, by rw [List.getElem?_append_left (List.getElem?_eq_some_iff.mp h2).1]; exact h2⟩
theorem dr_set {G : Gp} (h : Dr G) {l : Nat} (hl : l ≠ 0) (o : OU) : Dr (G.set l o) := by
  obtain ⟨ds, h1, h2⟩ := h
  exact ⟨ds, h1, by rw [List.getElem?_set_ne hl]; exact h2⟩
theorem Dr.len {G : Gp} (h : Dr G) : 0 < G.length := by
  obtain ⟨ds, _, h2⟩ := h
  exact (List.getElem?_eq_some_iff.mp h2).1
theorem ext_set {G G' : Gp} (h : Ext G G') {l : Nat} (hl : G.length ≤ l) (o : OU) : Ext G (G'.set l o) := ⟨by simp [h.1], fun m h1 h2 => by rw [List.getElem?_set_ne (by omega)]; exact h.2 m h1 h2⟩
theorem push_at (G : Gp) (o : OU) : (G ++ [o])[G.length]? = some o := by simp

theorem comp_rng {own : List Nat} {fa : Ev → Gp → R (List U)} {k : Nat} {fe : Ev → Gp → R U} {env : Ev} {G G1 : Gp} {n : Nat} (Q : Int → Prop) (hf : fa env G = .ok [.int n] G1) (hn : n < 1000000) (hD : Dr G1)
    (step : ∀ (i : Nat) (G2 : Gp), i < n → Dr G2 → Ext G1 G2 → ∃ v G3, fe ((wipeE env own).set k (some (.int (i : Nat)))) G2 = .ok (.int v) G3 ∧ Q v ∧ Oth G2 G3 ∧ Dr G3) :
    ∃ (vs : List Int) (G' : Gp), eComp own (iOfs fa kRng1) (gNm k) tYesB fe env G = .ok (.ref G1.length) G' ∧ G'[G1.length]? = some (.lst (vs.map .int)) ∧ vs.length = n ∧ (∀ v ∈ vs, Q v) ∧ Dr G' ∧ Ext G1 G' := by
  let I : Nat → List U → Gp → Prop := fun i acc G => ∃ vs : List Int, acc = vs.map .int ∧ vs.length = i ∧ (∀ v ∈ vs, Q v) ∧ Dr G ∧ G.length = G1.length + 1 ∧ Ext G1 G
  obtain ⟨src, e, g⟩ := gives_rng1 (I := fun _ _ _ => True) (j := (n : Int)) (by omega) (by omega) (G := G1)
  have hlen : (rng 0 (n : Int).toNat).length = n := by simp
  refine eComp_post (src := src) (xs := rng 0 (n : Int).toNat) (G1 := G1) I (fun r => ∃ (vs : List Int) (G' : Gp), r = .ok (.ref G1.length) G' ∧ G'[G1.length]? = some (.lst (vs.map .int)) ∧ vs.length = n ∧ (∀ v ∈ vs, Q v) ∧ Dr G' ∧ Ext G1 G') (iOfs_ok hf e) ⟨g.1, fun i acc G h _ => g.2 i [] G h trivial⟩ (by rw [hlen]; omega)
    ⟨[], rfl, rfl, fun v h => by simp at h, dr_push hD _, by simp, ext_push _ _⟩ ?_ ?_
  · rintro i hi acc G2 ⟨vs, rfl, h1, h2, h3, h4, h5⟩ hl
    rw [hlen] at hi
    obtain ⟨v, G3, e3, hQ, ho, hd⟩ := step i G2 hi h3 h5
    rw [rng_get]
    refine ⟨_, G2, true, G2, rfl, rfl, fun _ => ⟨.int v, G3, ?_, ?_, vs ++ [v], by simp, by simp [h1], ?_, dr_set hd (by have := hD.len; omega) _, by simp [ho.1, h4], ?_⟩, fun h => nomatch h⟩
    · have z : (0 : Int) + ((i : Nat) : Int) = ((i : Nat) : Int) := Int.zero_add _
      rw [z]
      exact e3
    · rw [ho.2 _ (by have := hD.len; omega)]; exact hl
    · intro x hx
      rcases List.mem_append.mp hx with hx | hx
      · exact h2 x hx
      · rw [List.mem_singleton] at hx; rw [hx]; exact hQ
    · refine ⟨by simp [ho.1, h4], fun l hl1 hl2 => ?_⟩
      rw [List.getElem?_set_ne (by omega), ho.2 l (by omega)]
      exact h5.2 l hl1 hl2
  · rintro acc G2 _ ⟨vs, rfl, h1, h2, h3, h4, h5⟩ hl
    exact ⟨vs, G2, rfl, hl, by rw [h1, hlen], h2, h3, h5⟩

/-- all lists stay -/
def Ex0 (G G' : Gp) : Prop := G.length ≤ G'.length ∧ ∀ l, l < G.length → G'[l]? = G[l]?
theorem Ex0.refl (G : Gp) : Ex0 G G := ⟨Nat.le_refl _, fun _ _ => rfl⟩
theorem Ex0.trans {G G1 G2 : Gp} (a : Ex0 G G1) (b : Ex0 G1 G2) : Ex0 G G2 := ⟨Nat.le_trans a.1 b.1, fun l h => (b.2 l (Nat.lt_of_lt_of_le h a.1)).trans (a.2 l h)⟩
theorem ex0_push (G : Gp) (o : OU) : Ex0 G (G ++ [o]) := ⟨by simp, fun l h => List.getElem?_append_left h⟩
theorem ex0_set {G G' : Gp} (h : Ex0 G G') {l : Nat} (hl : G.length ≤ l) (o : OU) : Ex0 G (G'.set l o) := ⟨by simp [h.1], fun m h1 => by rw [List.getElem?_set_ne (by omega)]; exact h.2 m h1⟩
theorem Ex0.at_ {G G' : Gp} (h : Ex0 G G') {l : Nat} {o : OU} (e : G[l]? = some o) : G'[l]? = some o := (h.2 l (List.getElem?_eq_some_iff.mp e).1).trans e
theorem Ex0.ext {G G' : Gp} (h : Ex0 G G') : Ext G G' := ⟨h.1, fun l _ h2 => h.2 l h2⟩
theorem Ex0.dr {G G' : Gp} (h : Ex0 G G') (d : Dr G) : Dr G' := by
  obtain ⟨ds, h1, h2⟩ := d
  exact ⟨ds, h1, h.at_ h2⟩
theorem set_same {G : Gp} {l : Nat} {x : OU} (h : G[l]? = some x) : G.set l x = G := by
  apply List.ext_getElem?
  intro i
  by_cases hi : i = l
  · subst hi; rw [set_get h, h]
  · rw [List.getElem?_set_ne (Ne.symm hi)]
theorem gAdd_tup {a b : List U} {G : Gp} (h : a.length + b.length ≤ 16777216) : gAdd (.tup a) (.tup b) G = .ok (.tup (a ++ b)) G := if_pos h
theorem seqU_of {G : Gp} {l : Nat} {xs : List U} (h : G[l]? = some (.lst xs)) : seqU G (.ref l) = some xs := by rw [seqU_ref, h]
/-- a source that gives these items while the older lists stay -/
def SrcX (src : Src) (xs : List U) (G1 : Gp) : Prop := xs.length < src.fuel ∧ ∀ i G2, i ≤ xs.length → Ex0 G1 G2 → src.at_ i G2 = some xs[i]?
theorem srcx_tup {xs : List U} {G : Gp} : kSeq (.tup xs) G = some (.items xs) ∧ SrcX (.items xs) xs G := ⟨rfl, Nat.lt_succ_self _, fun _ _ _ _ => rfl⟩
theorem srcx_ref {l : Nat} {xs : List U} {G : Gp} (h : G[l]? = some (.lst xs)) : ∃ src, kSeq (.ref l) G = some src ∧ SrcX src xs G := by
  obtain ⟨src, e, g⟩ := gives_ref (I := fun _ _ G' => G'[l]? = some (.lst xs)) h (fun _ _ _ h => h)
  exact ⟨src, e, g.1, fun i G2 hi hx => g.2 i [] G2 hi (hx.at_ h)⟩
theorem srcx_rng {n : Nat} {G : Gp} (hn : n < 1000000) : ∃ src, kRng1 [.int (n : Nat)] G = some src ∧ SrcX src ((List.range n).map fun i => U.int (i : Nat)) G := by
  obtain ⟨src, e, g⟩ := gives_rng1 (I := fun _ _ _ => True) (j := (n : Int)) (by omega) (by omega) (G := G)
  have e2 : rng 0 (n : Int).toNat = (List.range n).map fun i => U.int (i : Nat) := by unfold rng; simp
  rw [e2] at g
  exact ⟨src, e, g.1, fun i G2 hi _ => g.2 i [] G2 hi trivial⟩
/-- a comprehension that makes no lists -/
theorem comp_pure {α : Type} {own : List Nat} {fi : Ev → Gp → R Src} {gf : U → Ev → Gp → R Ev} {ft : Ev → Gp → R Bool} {fe : Ev → Gp → R U} {env : Ev} {G G1 : Gp} {src : Src} {ys : List α} {g : α → U} (p : α → Bool) (f : α → U) (hf : fi env G = .ok src G1) (hs : SrcX src (ys.map g) G1) (hlen : ys.length < 16777216)
    (step : ∀ (i : Nat) (hi : i < ys.length) (G2 : Gp), Ex0 G1 G2 → ∃ env1, gf (g ys[i]) (wipeE env own) G2 = .ok env1 G2 ∧ ft env1 G2 = .ok (p ys[i]) G2 ∧ (p ys[i] = true → fe env1 G2 = .ok (f ys[i]) G2)) :
    ∃ G', eComp own fi gf ft fe env G = .ok (.ref G1.length) G' ∧ Ex0 G1 G' ∧ G'[G1.length]? = some (.lst ((ys.filter p).map f)) := by
  have hl : (ys.map g).length = ys.length := List.length_map ..
  refine eComp_post (src := src) (xs := ys.map g) (G1 := G1) (fun i acc G => acc = ((ys.take i).filter p).map f ∧ Ex0 G1 G) (fun r => ∃ G', r = .ok (.ref G1.length) G' ∧ Ex0 G1 G' ∧ G'[G1.length]? = some (.lst ((ys.filter p).map f))) hf ⟨hs.1, fun i acc G h hI => hs.2 i G h hI.2⟩ (by rw [hl]; exact hlen) ⟨by simp, ex0_push _ _⟩ ?_ ?_
  · intro i hi acc G2 hI hat
    obtain ⟨ha, hx⟩ := hI
    subst ha
    rw [hl] at hi
    obtain ⟨env1, s1, s2, s3⟩ := step i hi G2 hx
    rw [List.getElem_map]
    have tk : ys.take (i + 1) = ys.take i ++ [ys[i]] := List.take_succ_eq_append_getElem hi
    refine ⟨env1, G2, p ys[i], G2, s1, s2, fun hb => ⟨f ys[i], G2, s3 hb, hat, ?_, ex0_set hx (Nat.le_refl _) _⟩, fun hb => ⟨hat, ?_, hx⟩⟩
    · rw [tk, List.filter_append]; simp [hb]
    · rw [tk, List.filter_append]; simp [hb]
  · intro acc G2 _ hI hat
    obtain ⟨ha, hx⟩ := hI
    subst ha
    rw [hl, List.take_length] at hat
    exact ⟨G2, rfl, hx, hat⟩
/-- a comprehension of which each turn makes one new list -/
theorem comp_fresh {α : Type} {own : List Nat} {fi : Ev → Gp → R Src} {gf : U → Ev → Gp → R Ev} {fe : Ev → Gp → R U} {env : Ev} {G G1 : Gp} {src : Src} {ys : List α} {g : α → U} (f : α → List U) (hf : fi env G = .ok src G1) (hs : SrcX src (ys.map g) G1) (hlen : ys.length < 16777216)
    (step : ∀ (i : Nat) (hi : i < ys.length) (G2 : Gp), Ex0 G1 G2 → ∃ env1, gf (g ys[i]) (wipeE env own) G2 = .ok env1 G2 ∧ fe env1 G2 = .ok (.ref G2.length) (G2 ++ [.lst (f ys[i])])) :
    ∃ G', eComp own fi gf tYesB fe env G = .ok (.ref G1.length) G' ∧ Ex0 G1 G' ∧ G'[G1.length]? = some (.lst ((List.range ys.length).map fun s => U.ref (G1.length + 1 + s))) ∧ ∀ (i : Nat) (hi : i < ys.length), G'[G1.length + 1 + i]? = some (.lst (f ys[i])) := by
  have hl : (ys.map g).length = ys.length := List.length_map ..
  refine eComp_post (src := src) (xs := ys.map g) (G1 := G1) (fun i acc G => acc = ((List.range i).map fun s => U.ref (G1.length + 1 + s)) ∧ Ex0 G1 G ∧ G.length = G1.length + 1 + i ∧ ∀ (j : Nat) (hj : j < ys.length), j < i → G[G1.length + 1 + j]? = some (.lst (f ys[j])))
    (fun r => ∃ G', r = .ok (.ref G1.length) G' ∧ Ex0 G1 G' ∧ G'[G1.length]? = some (.lst ((List.range ys.length).map fun s => U.ref (G1.length + 1 + s))) ∧ ∀ (i : Nat) (hi : i < ys.length), G'[G1.length + 1 + i]? = some (.lst (f ys[i]))) hf ⟨hs.1, fun i acc G h hI => hs.2 i G h hI.2.1⟩ (by rw [hl]; exact hlen) ⟨rfl, ex0_push _ _, by simp, fun j hj h => absurd h (Nat.not_lt_zero _)⟩ ?_ ?_
  · intro i hi acc G2 hI hat
    obtain ⟨ha, hx, hlen2, hrow⟩ := hI
    subst ha
    rw [hl] at hi
    obtain ⟨env1, s1, s2⟩ := step i hi G2 hx
    rw [List.getElem_map]
    refine ⟨env1, G2, true, G2, s1, rfl, fun _ => ⟨_, _, s2, ?_, ?_, ex0_set (hx.trans (ex0_push _ _)) (Nat.le_refl _) _, by simp [hlen2]; omega, fun j hj hji => ?_⟩, fun h => nomatch h⟩
    · rw [List.getElem?_append_left (by omega)]; exact hat
    · rw [List.range_succ, List.map_append, hlen2]; rfl
    · rw [List.getElem?_set_ne (by omega)]
      by_cases c : j = i
      · subst c
        rw [← hlen2]; exact push_at _ _
      · rw [List.getElem?_append_left (by omega)]
        exact hrow j hj (by omega)
  · intro acc G2 _ hI hat
    obtain ⟨ha, hx, hlen2, hrow⟩ := hI
    subst ha
    rw [hl] at hat hrow
    exact ⟨G2, rfl, hx, hat, fun i hi => hrow i hi hi⟩
end K09

set_option Elab.async false
set_option linter.all false
set_option maxRecDepth 100000
set_option maxHeartbeats 4000000
set_option autoImplicit false
namespace K09
open PySem PySem.Spec L2 FL

/-! ### the checks -/
def noRef (v : U) : Prop := ∀ l, v ≠ .ref l
def tyU : U → String
  | .non => "NoneType" | .bl _ => "bool" | .int _ => "int" | .str _ => "str" | .tup _ => "tuple" | .rl _ => "list" | .ref _ => "list"
theorem tyN_of {G : Gp} {v : U} (h : noRef v) : tyN G v = some (tyU v) := by
  cases v <;> first | rfl | exact absurd rfl (h _)
def isI : U → Bool
  | .int _ => true
  | _ => false
def isIB : U → Bool
  | .int _ => true
  | .bl _ => true
  | _ => false
def isB : U → Bool
  | .bl _ => true
  | _ => false
theorem lkInt (v : U) : tbInt.lookup (tyU v) = some (isIB v) := by cases v <;> rfl
theorem lkBool (v : U) : tbBool.lookup (tyU v) = some (isB v) := by cases v <;> rfl
theorem is_integer_spec {v : U} (h : noRef v) (G : Gp) : F_is_integer [v] G = .ok (.bl (isI v)) G := by
  rw [run_is_integer]
  simp only [g_is_integer, sRet_, eAnd_, eNot_, eIs_, eVar_, List.getElem?_cons_zero, r_bind_ok, isRes_of (tyN_of h) (lkInt v), isRes_of (tyN_of h) (lkBool v), asB_ok]
  cases v <;> simp [isI, isIB, isB]
def inR (v : U) (lo up : Int) : Bool := match v with
  | .int i => decide (lo ≤ i) && decide (i ≤ up)
  | _ => false
theorem is_from_to_spec {v : U} (h : noRef v) (lo up : Int) (G : Gp) : F_is_from_to [v, .int lo, .int up] G = .ok (.bl (inR v lo up)) G := by
  rw [run_is_from_to]
  simp only [g_is_from_to, sRet_, eAnd_, eCall_, aCons_, aNil_, eVar_, List.getElem?_cons_zero, r_bind_ok, is_integer_spec h, asB_ok]
  cases v with
  | int i =>
    by_cases h1 : lo ≤ i
    · simp [isI, inR, h1]
    · simp [isI, inR, h1]
  | _ => simp [isI, inR]
theorem check_number_ok {v : U} (h : noRef v) {lo up : Int} (G : Gp) (hb : inR v lo up = true) : F_check_number [v, .int lo, .int up] G = .ok .non G := by
  rw [run_check_number]
  simp [g_check_number, is_from_to_spec h, hb]
theorem check_number_bad {v : U} (h : noRef v) {lo up : Int} (G : Gp) (hb : inR v lo up = false) : F_check_number [v, .int lo, .int up] G = .exc "InvalidNumber" [("number", v)] G := by
  rw [run_check_number]
  simp [g_check_number, is_from_to_spec h, hb, sRaise]
/-- the row's items, if it is a row -/
def isSeq (u : U) (xs : List U) (G : Gp) : Prop := u = .tup xs ∨ ∃ l, u = .ref l ∧ G[l]? = some (.lst xs)
theorem isSeq.seq {u : U} {xs : List U} {G : Gp} (h : isSeq u xs G) : seqU G u = some xs := by
  rcases h with rfl | ⟨l, rfl, e⟩
  · rfl
  · simp [e]
theorem isSeq.is {u : U} {xs : List U} {G : Gp} (h : isSeq u xs G) : isRes tbSeq u G = .ok (.bl true) G := by
  rcases h with rfl | ⟨l, rfl, e⟩
  · rfl
  · exact isRes_of (n := "list") (by simp only [tyN, e]) rfl
theorem enum_for {fa : Ev → Gp → R (List U)} {gf : U → Ev → Gp → R Ev} {body : Ev → Gp → SR} {env : Ev} {G : Gp} {u : U} {xs : List U} (I : Nat → Ev → Gp → Prop) (P : SR → Prop) (hu : isSeq u xs G) (hf : fa env G = .ok [u] G) (hI : ∀ i e G', I i e G' → G' = G) (h0 : I 0 env G)
    (step : ∀ (i : Nat) (hi : i < xs.length) (env : Ev), I i env G → after ((gf (.tup [.int (i : Nat), xs[i]]) env G).andThen env fun env1 G1 => body env1 G1) (I (i + 1)) P)
    (fin : ∀ env, I xs.length env G → P (.nx env G)) : P (sFor (iOfs fa kEnum) gf body env G) := by
  have hlen : (xs.mapIdx fun i x => U.tup [.int (i : Nat), x]).length = xs.length := by simp
  have key : ∃ src, kEnum [u] G = some src ∧ Gives src (xs.mapIdx fun i x => U.tup [.int (i : Nat), x]) I := by
    rcases hu with rfl | ⟨l, rfl, e⟩
    · exact ⟨_, rfl, gives_items⟩
    · refine ⟨.live (xs.length + 1) fun i G => match G[l]? with
        | some (.lst ys) => some (ys[i]?.map fun x => .tup [.int (i : Nat), x])
        | _ => none, by unfold kEnum; (simp only [e] <;> rfl), by simp [Src.fuel], fun i env G' hi h2 => ?_⟩
      have := hI i env G' h2
      subst this
      show (match G'[l]? with
        | some (.lst ys) => some (ys[i]?.map fun x => U.tup [.int (i : Nat), x])
        | _ => none) = _
      rw [e]
      simp
  obtain ⟨src, e, g⟩ := key
  refine sFor_post (src := src) (G1 := G) I P (iOfs_ok hf e) g h0 (fun i hi env G' h2 => ?_) (fun env G' h2 => ?_)
  · have := hI i env G' h2
    subst this
    rw [List.getElem_mapIdx]
    exact step i (by simpa using hi) env h2
  · have := hI _ env G' h2
    subst this
    exact fin env (by simpa using h2)
theorem checked_row_ok {u : U} {xs : List U} {G : Gp} {m : Int} {lo up : Int} (hu : isSeq u xs G) (h1 : 1 ≤ xs.length) (h2 : (xs.length : Int) ≤ m) (h : ∀ x ∈ xs, noRef x ∧ inR x lo up = true) : F_checked_row [u, .int m, .int lo, .int up] G = .ok (.tup xs) G := by
  rw [run_checked_row]
  have hl : bLen [u] G = .ok (.int xs.length) G := bLen_seq hu.seq
  have ht : bTuple [u] G = .ok (.tup xs) G := bTuple_seq hu.seq
  have his := hu.is
  have L : ∃ a b, sFor (iOfs (aCons (eVar 0) aNil) kEnum) (FL.gTup (FL.gCons (gNm 4) (FL.gCons (gNm 5) FL.gNil)) 2) g_checked_row_1 [some u, some (.int m), some (.int lo), some (.int up), none, none] G = .nx [some u, some (.int m), some (.int lo), some (.int up), a, b] G := by
    refine enum_for (fun i e G' => G' = G ∧ ∃ a b, e = [some u, some (.int m), some (.int lo), some (.int up), a, b]) (fun r => ∃ a b, r = .nx [some u, some (.int m), some (.int lo), some (.int up), a, b] G) hu (by simp) (fun i e G' h => h.1) ⟨rfl, none, none, rfl⟩ ?_ ?_
    · rintro i hi env ⟨_, a, b, rfl⟩
      obtain ⟨hx, hr⟩ := h _ (List.getElem_mem hi)
      have e : (FL.gTup (FL.gCons (gNm 4) (FL.gCons (gNm 5) FL.gNil)) 2 (.tup [.int (i : Nat), xs[i]]) [some u, some (.int m), some (.int lo), some (.int up), a, b] G).andThen [some u, some (.int m), some (.int lo), some (.int up), a, b] (fun env1 G1 => g_checked_row_1 env1 G1) = .nx [some u, some (.int m), some (.int lo), some (.int up), some (.int (i : Nat)), some xs[i]] G := by
        simp [g_checked_row_1, is_from_to_spec hx, hr]
      rw [e]
      exact ⟨rfl, _, _, rfl⟩
    · rintro env ⟨_, a, b, rfl⟩
      exact ⟨a, b, rfl⟩
  obtain ⟨a, b, L⟩ := L
  have h1' : (1 : Int) ≤ (xs.length : Int) := by omega
  unfold g_checked_row
  rw [seq_nx (e' := [some u, some (.int m), some (.int lo), some (.int up), none, none]) (G' := G) (by simp [his, hl, h1', h2]), seq_nx L]
  simp [ht]
/-- the first place that is wrong -/
theorem checked_row_place {u : U} {xs : List U} {G : Gp} {m : Int} {lo up : Int} (hu : isSeq u xs G) (h1 : 1 ≤ xs.length) (h2 : (xs.length : Int) ≤ m) {k : Nat} (hk : k < xs.length) (hkr : noRef xs[k]) (hkb : inR xs[k] lo up = false) (h : ∀ (j : Nat) (hj : j < xs.length), j < k → noRef xs[j] ∧ inR xs[j] lo up = true) :
    F_checked_row [u, .int m, .int lo, .int up] G = .exc "InvalidRow" [("place", .int (k : Nat))] G := by
  rw [run_checked_row]
  have hl : bLen [u] G = .ok (.int xs.length) G := bLen_seq hu.seq
  have his := hu.is
  have L : ∃ e', sFor (iOfs (aCons (eVar 0) aNil) kEnum) (FL.gTup (FL.gCons (gNm 4) (FL.gCons (gNm 5) FL.gNil)) 2) g_checked_row_1 [some u, some (.int m), some (.int lo), some (.int up), none, none] G = .exc "InvalidRow" [("place", .int (k : Nat))] e' G := by
    refine enum_for (fun i e G' => G' = G ∧ i ≤ k ∧ ∃ a b, e = [some u, some (.int m), some (.int lo), some (.int up), a, b]) (fun r => ∃ e', r = .exc "InvalidRow" [("place", .int (k : Nat))] e' G) hu (by simp) (fun i e G' h => h.1) ⟨rfl, Nat.zero_le _, none, none, rfl⟩ ?_ ?_
    · rintro i hi env ⟨_, hik, a, b, rfl⟩
      by_cases hc : i = k
      · subst hc
        have e : (FL.gTup (FL.gCons (gNm 4) (FL.gCons (gNm 5) FL.gNil)) 2 (.tup [.int (i : Nat), xs[i]]) [some u, some (.int m), some (.int lo), some (.int up), a, b] G).andThen [some u, some (.int m), some (.int lo), some (.int up), a, b] (fun env1 G1 => g_checked_row_1 env1 G1) = .exc "InvalidRow" [("place", .int (i : Nat))] [some u, some (.int m), some (.int lo), some (.int up), some (.int (i : Nat)), some xs[i]] G := by
          simp [g_checked_row_1, is_from_to_spec hkr, hkb, sRaise]
        rw [e]
        exact ⟨_, rfl⟩
      · obtain ⟨hx, hr⟩ := h i hi (by omega)
        have e : (FL.gTup (FL.gCons (gNm 4) (FL.gCons (gNm 5) FL.gNil)) 2 (.tup [.int (i : Nat), xs[i]]) [some u, some (.int m), some (.int lo), some (.int up), a, b] G).andThen [some u, some (.int m), some (.int lo), some (.int up), a, b] (fun env1 G1 => g_checked_row_1 env1 G1) = .nx [some u, some (.int m), some (.int lo), some (.int up), some (.int (i : Nat)), some xs[i]] G := by
          simp [g_checked_row_1, is_from_to_spec hx, hr]
        rw [e]
        exact ⟨rfl, by omega, _, _, rfl⟩
    · rintro env ⟨_, hik, a, b, rfl⟩
      omega
  obtain ⟨e', L⟩ := L
  have h1' : (1 : Int) ≤ (xs.length : Int) := by omega
  unfold g_checked_row
  rw [seq_nx (e' := [some u, some (.int m), some (.int lo), some (.int up), none, none]) (G' := G) (by simp [his, hl, h1', h2])]
  simp [L]
theorem checked_row_len {u : U} {xs : List U} {G : Gp} {m : Int} {lo up : Int} (hu : isSeq u xs G) (h2 : xs.length = 0 ∨ m < (xs.length : Int)) : F_checked_row [u, .int m, .int lo, .int up] G = .exc "InvalidRow" [("place", .int 0)] G := by
  rw [run_checked_row]
  have hl : bLen [u] G = .ok (.int xs.length) G := bLen_seq hu.seq
  have his := hu.is
  unfold g_checked_row
  by_cases h1 : (1 : Int) ≤ (xs.length : Int)
  · have h3 : ¬ (xs.length : Int) ≤ m := by omega
    simp [his, hl, h1, h3, sRaise]
  · simp [his, hl, h1, sRaise]
def isS : U → Bool
  | .tup _ => true
  | .rl _ => true
  | .ref _ => true
  | _ => false
theorem lkSeq (v : U) : tbSeq.lookup (tyU v) = some (isS v) := by cases v <;> rfl
theorem checked_row_kind {u : U} {G : Gp} {m lo up : Int} (h : noRef u) (hs : isS u = false) : F_checked_row [u, .int m, .int lo, .int up] G = .exc "InvalidRow" [("place", .int 0)] G := by
  rw [run_checked_row]
  unfold g_checked_row
  simp [isRes_of (tyN_of h) (lkSeq u), hs, sRaise]
theorem noRef_int (i : Int) : noRef (.int i) := fun l h => nomatch h
end K09

set_option Elab.async false
set_option linter.all false
set_option maxRecDepth 100000
set_option maxHeartbeats 4000000
set_option autoImplicit false
namespace K09
open PySem PySem.Spec L2 FL

theorem bInts_seq {g : List Int → U} {ne : Bool} {u : U} {ns : List Int} {G : Gp} (h : seqU G u = some (ns.map .int)) (hn : ¬ (ne = true ∧ ns = [])) : bInts g ne [u] G = .ok (g ns) G := by
  unfold bInts
  simp only [h, intsU_map, if_neg hn]
theorem drop_cons {row : List Int} {i : Nat} (hi : i < row.length) : row.drop i = row[i] :: row.drop (i + 1) := List.drop_eq_getElem_cons hi
theorem stages_spec {row : List Int} {top : Int} (hp : PosR row) (G : Gp) : F_stages_needed [.tup (row.map .int), .int top] G = .ok (.int (need row top : Nat)) G := by
  rw [run_stages_needed]
  have L : ∃ (many left : Int) (a : Option U), sFor (iOf (eVar 0) kSeq) (gNm 4) g_stages_needed_2 [some (.tup (row.map .int)), some (.int top), some (.int 0), some (.int 0), none] G = .nx [some (.tup (row.map .int)), some (.int top), some (.int many), some (.int left), a] G ∧ many = (need row top : Nat) := by
    refine sFor_tup (xs := row.map .int) (G1 := G) (fun i e G' => G' = G ∧ ∃ (many : Nat) (left : Int) (a : Option U), e = [some (.tup (row.map .int)), some (.int top), some (.int many), some (.int left), a] ∧ many + gr top left (row.drop i) = need row top ∧ (many = 0 → left = 0)) (fun r => ∃ (many left : Int) (a : Option U), r = .nx [some (.tup (row.map .int)), some (.int top), some (.int many), some (.int left), a] G ∧ many = (need row top : Nat)) (by simp) ⟨rfl, 0, 0, none, rfl, by simp [need], fun _ => rfl⟩ ?_ ?_
    · rintro i hi e G' ⟨rfl, many, left, a, rfl, h1, h2⟩
      have hi' : i < row.length := by simpa using hi
      obtain ⟨c, hc⟩ : ∃ c, c = row[i] := ⟨_, rfl⟩
      have hc1 : 1 ≤ c := by rw [hc]; exact hp _ (List.getElem_mem _)
      have hget : (row.map U.int)[i] = .int c := by rw [List.getElem_map, hc]
      rw [hget]
      rw [drop_cons hi', ← hc, gr_cons] at h1
      show after (g_stages_needed_2 [some (.tup (row.map .int)), some (.int top), some (.int (many : Nat)), some (.int left), some (.int c)] G') _ _
      obtain ⟨mm, hmm⟩ : ∃ mm : Int, mm = (many : Int) := ⟨_, rfl⟩
      rw [← hmm]
      by_cases hcl : c ≤ left
      · have hm0 : mm ≠ 0 := fun z => by
          have := h2 (by omega)
          omega
        rw [if_pos hcl] at h1
        have ee : g_stages_needed_2 [some (.tup (row.map .int)), some (.int top), some (.int mm), some (.int left), some (.int c)] G' = .nx [some (.tup (row.map .int)), some (.int top), some (.int mm), some (.int (left - c)), some (.int c)] G' := by
          have : ¬ left < c := by omega
          simp [g_stages_needed_2, hm0, this]
        rw [ee]
        exact ⟨rfl, many, left - c, some (.int c), by rw [hmm], h1, fun z => absurd (by omega) hm0⟩
      · rw [if_neg hcl] at h1
        have ee : g_stages_needed_2 [some (.tup (row.map .int)), some (.int top), some (.int mm), some (.int left), some (.int c)] G' = .nx [some (.tup (row.map .int)), some (.int top), some (.int (mm + 1)), some (.int (top - c)), some (.int c)] G' := by
          have : left < c := by omega
          by_cases z : mm = 0
          · simp [g_stages_needed_2, g_stages_needed_1, z]
          · simp [g_stages_needed_2, g_stages_needed_1, z, this]
        rw [ee]
        exact ⟨rfl, many + 1, top - c, some (.int c), by rw [hmm]; simp, by omega, fun z => by omega⟩
    · rintro e G' ⟨rfl, many, left, a, rfl, h1, h2⟩
      refine ⟨many, left, a, rfl, ?_⟩
      simp [gr] at h1
      omega
  obtain ⟨many, left, a, L, hm⟩ := L
  unfold g_stages_needed
  rw [seq_nx (e' := [some (.tup (row.map .int)), some (.int top), some (.int 0), none, none]) (G' := G) (by simp), seq_nx (e' := [some (.tup (row.map .int)), some (.int top), some (.int 0), some (.int 0), none]) (G' := G) (by simp), seq_nx L]
  simp [hm]
/-- the least top -/
def IsTop (row : List Int) (s : Nat) (T : Int) : Prop := maxL row ≤ T ∧ need row T ≤ s ∧ ∀ t, maxL row ≤ t → t < T → s < need row t
theorem le_max {row : List Int} (hn : row ≠ []) : ∀ c ∈ row, c ≤ maxL row := (maxL_spec hn).2
theorem posR_le {row : List Int} (hp : PosR row) (hn : row ≠ []) {t : Int} (ht : maxL row ≤ t) : ∀ c ∈ row, 1 ≤ c ∧ c ≤ t := fun c hc => ⟨hp c hc, Int.le_trans (le_max hn c hc) ht⟩
theorem max_le_sum {row : List Int} (hp : PosR row) (hn : row ≠ []) : maxL row ≤ row.sum := by
  have hm := (maxL_spec hn).1
  clear hn
  generalize maxL row = m at hm
  induction row with
  | nil => simp at hm
  | cons d t ih =>
    have ht : PosR t := fun c hc => hp c (List.mem_cons_of_mem _ hc)
    have := sum_nonneg ht
    have := hp d List.mem_cons_self
    rw [List.sum_cons]
    rcases List.mem_cons.mp hm with e | e
    · omega
    · have := ih ht e; omega
theorem need_sum {row : List Int} (hp : PosR row) (hn : row ≠ []) : need row row.sum ≤ 1 := by
  have := need_le (top := row.sum) (ps := [row]) (fun p hp => by rw [List.mem_singleton] at hp; rw [hp]; exact ⟨hn, Int.le_refl _⟩) (by simpa using hp)
  simpa using this
theorem top_spec {row : List Int} {s : Nat} (hp : PosR row) (hn : row ≠ []) (hs : 1 ≤ s) (hb : row.sum < 1000000000) (G : Gp) : ∃ T, F_top_needed [.tup (row.map .int), .int s] G = .ok (.int T) G ∧ IsTop row s T := by
  rw [run_top_needed]
  obtain ⟨si, hsi⟩ : ∃ si : Int, si = (s : Int) := ⟨_, rfl⟩
  rw [← hsi]
  have L : ∃ (T : Int) (x y : Option U), whileN (bVal (eBin gLt (eVar 2) (eVar 3))) g_top_needed_1 bigN [some (.tup (row.map .int)), some (.int si), some (.int (maxL row)), some (.int row.sum), none] G = .nx [some (.tup (row.map .int)), some (.int si), some (.int T), x, y] G ∧ IsTop row s T := by
    refine while_post (I := fun e G' => G' = G ∧ ∃ (low high : Int) (z : Option U), e = [some (.tup (row.map .int)), some (.int si), some (.int low), some (.int high), z] ∧ maxL row ≤ low ∧ low ≤ high ∧ need row high ≤ s ∧ ∀ t, maxL row ≤ t → t < low → s < need row t)
      (m := fun e _ => match e with
        | [_, _, some (.int low), some (.int high), _] => (high - low).toNat
        | _ => 0) (fun r => ∃ (T : Int) (x y : Option U), r = .nx [some (.tup (row.map .int)), some (.int si), some (.int T), x, y] G ∧ IsTop row s T) ?_ bigN _ _ ⟨rfl, _, _, _, rfl, Int.le_refl _, max_le_sum hp hn, Nat.le_trans (need_sum hp hn) hs, fun t h1 h2 => by omega⟩ ?_
    · rintro e G' ⟨rfl, low, high, z, rfl, h1, h2, h3, h4⟩
      by_cases hlt : low < high
      · refine ⟨true, G', by simp [hlt], fun _ => ?_, fun h => nomatch h⟩
        obtain ⟨mid, hmid⟩ : ∃ mid, mid = (low + high) / 2 := ⟨_, rfl⟩
        have hm1 : low ≤ mid := by omega
        have hm2 : mid < high := by omega
        have fd : ∀ G', gFdiv (.int (low + high)) (.int 2) G' = .ok (.int mid) G' := fun G' => by rw [hmid]; exact gFdiv_ii (by decide) (by decide)
        have st := stages_spec (row := row) (top := mid) hp G'
        have hall := posR_le hp hn (Int.le_trans h1 hm1)
        obtain ⟨nd, hnd⟩ : ∃ nd : Int, nd = ((need row mid : Nat) : Int) := ⟨_, rfl⟩
        rw [← hnd] at st
        by_cases hc : need row mid ≤ s
        · have hc' : nd ≤ si := by omega
          have ee : g_top_needed_1 [some (.tup (row.map .int)), some (.int si), some (.int low), some (.int high), z] G' = .nx [some (.tup (row.map .int)), some (.int si), some (.int low), some (.int mid), some (.int mid)] G' := by
            simp [g_top_needed_1, fd, st, hc']
          rw [ee]
          exact ⟨⟨rfl, low, mid, _, rfl, h1, hm1, hc, h4⟩, by show (mid - low).toNat < (high - low).toNat; omega⟩
        · have hc' : ¬ nd ≤ si := by omega
          have ee : g_top_needed_1 [some (.tup (row.map .int)), some (.int si), some (.int low), some (.int high), z] G' = .nx [some (.tup (row.map .int)), some (.int si), some (.int (mid + 1)), some (.int high), some (.int mid)] G' := by
            simp [g_top_needed_1, fd, st, hc']
          rw [ee]
          refine ⟨⟨rfl, mid + 1, high, _, rfl, by omega, by omega, h3, fun t t1 t2 => ?_⟩, by show (high - (mid + 1)).toNat < (high - low).toNat; omega⟩
          have := need_mono (t' := mid) (posR_le hp hn t1) (by omega)
          omega
      · refine ⟨false, G', by simp [hlt], fun h => (nomatch h), fun _ => ?_⟩
        have : low = high := by omega
        subst this
        exact ⟨low, _, _, rfl, h1, h3, h4⟩
    · show (row.sum - maxL row).toNat < bigN
      have : 0 ≤ maxL row := by
        have := hp _ (maxL_spec hn).1
        omega
      unfold bigN
      omega
  obtain ⟨T, x, y, L, hT⟩ := L
  refine ⟨T, ?_, hT⟩
  have hq : seqU G (.tup (row.map .int)) = some (row.map .int) := rfl
  have bm : bMax [.tup (row.map .int)] G = .ok (.int (maxL row)) G := bInts_seq hq (fun h => hn h.2)
  have bs : bSum [.tup (row.map .int)] G = .ok (.int row.sum) G := bInts_seq hq (fun h => nomatch h.1)
  unfold g_top_needed
  rw [seq_nx (e' := [some (.tup (row.map .int)), some (.int si), some (.int (maxL row)), none, none]) (G' := G) (by simp [bm]), seq_nx (e' := [some (.tup (row.map .int)), some (.int si), some (.int (maxL row)), some (.int row.sum), none]) (G' := G) (by simp [bs]), seq_nx L]
  simp
theorem can_spec {row : List Int} {s top : Int} (hp : PosR row) (hs : 1 ≤ s) (G : Gp) : F_can_be_cut [.tup (row.map .int), .int s, .int top] G = .ok (.bl (decide (s ≤ row.length) && decide ((need row top : Nat) ≤ s))) G := by
  rw [run_can_be_cut]
  have st := stages_spec (row := row) (top := top) hp G
  have hs0 : s ≠ 0 := by omega
  obtain ⟨nd, hnd⟩ : ∃ nd : Int, nd = ((need row top : Nat) : Int) := ⟨_, rfl⟩
  rw [← hnd] at st ⊢
  by_cases h1 : s ≤ (row.length : Int)
  · simp [g_can_be_cut, hs0, st, h1]
  · simp [g_can_be_cut, hs0, st, h1]
theorem cutU_from {α : Type} (xs : List α) (e : Nat) : cutU xs (some (e : Int)) none = xs.drop e := by
  unfold cutU
  rw [HT.sIx_nat, HT.sIx_none]
  by_cases h : e ≤ xs.length
  · rw [Nat.min_eq_left h]
    exact List.take_of_length_le (by simp)
  · rw [Nat.min_eq_right (by omega), List.drop_of_length_le (by omega), List.drop_of_length_le (by omega)]
    simp
/-- the least places, one behind the other: m more behind b -/
def Gre (top : Int) (row : List Int) : Nat → Nat → List Nat → Prop
  | 0, _, c => c = []
  | m + 1, b, c => ∃ e rest, c = e :: rest ∧ b < e ∧ Cut top (m + 1) (row.drop e) ∧ (∀ e', b < e' → e' < e → ¬ Cut top (m + 1) (row.drop e')) ∧ Gre top row m e rest
def ofN (c : List Nat) : List U := c.map fun x => .int (x : Nat)
theorem kRev_gives {a b : Int} (h1 : -4611686018427387904 ≤ a) (h2 : a < 4611686018427387904) (h3 : -4611686018427387904 ≤ b) (h4 : b < 4611686018427387904) {I : Nat → Ev → Gp → Prop} {G : Gp} :
    ∃ src, kRevR [.int a, .int b] G = some src ∧ Gives src ((List.range (b - a).toNat).map fun i => U.int (a + (((b - a).toNat : Nat) : Int) - 1 + (i : Nat) * (-1))) I := by
  refine ⟨.live ((b - a).toNat + 1) fun i _ => some (if i < (b - a).toNat then some (.int (a + (((b - a).toNat : Nat) : Int) - 1 + (i : Nat) * (-1))) else none), if_pos ⟨by rw [p62]; exact h1, by rw [p62]; exact h2, by rw [p62]; exact h3, by rw [p62]; exact h4⟩, by simp [Src.fuel], fun i env G _ _ => ?_⟩
  refine congrArg some ?_
  by_cases h : i < (b - a).toNat
  · rw [if_pos h, List.getElem?_eq_getElem (by simpa using h)]
    simp
  · rw [if_neg h, List.getElem?_eq_none (by simp; omega)]
/-- the search for the next place -/
theorem find_end {row : List Int} {top : Int} (hp : PosR row) (ht : ∀ c ∈ row, c ≤ top) {later : Nat} (hl : 1 ≤ later) (hlen : row.length < 1000000) {b e0 : Nat} (hb : b < e0) (he0 : Cut top later (row.drop e0)) (c0 s0 f0 be : U) (G : Gp) :
    ∃ e : Nat, whileN (tNotB (bVal (eCall F_can_be_cut (aCons (eSl (eVar 2) (pInt (eVar 7)) pNo) (aCons (eVar 6) (aCons (eVar 3) aNil)))))) (sAug 7 gAugAdd (eC (.int 1))) bigN [some c0, some s0, some (.tup (row.map .int)), some (.int top), some f0, some be, some (.int (later : Nat)), some (.int ((b : Int) + 1))] G = .nx [some c0, some s0, some (.tup (row.map .int)), some (.int top), some f0, some be, some (.int (later : Nat)), some (.int (e : Nat))] G ∧ b < e ∧ Cut top later (row.drop e) ∧ ∀ e', b < e' → e' < e → ¬ Cut top later (row.drop e') := by
  have hle : e0 < row.length := by
    match later, hl, he0 with
    | k + 1, _, ⟨e, h1, h2, _⟩ => simp at h2; omega
  obtain ⟨li, hli⟩ : ∃ li : Int, li = (later : Int) := ⟨_, rfl⟩
  rw [← hli]
  refine while_post (I := fun ev G' => G' = G ∧ ∃ e : Nat, ev = [some c0, some s0, some (.tup (row.map .int)), some (.int top), some f0, some be, some (.int li), some (.int (e : Nat))] ∧ b < e ∧ e ≤ e0 ∧ ∀ e', b < e' → e' < e → ¬ Cut top later (row.drop e'))
    (m := fun ev _ => match ev with
      | [_, _, _, _, _, _, _, some (.int e)] => ((e0 : Int) - e).toNat
      | _ => 0) (fun r => ∃ e : Nat, r = .nx [some c0, some s0, some (.tup (row.map .int)), some (.int top), some f0, some be, some (.int li), some (.int (e : Nat))] G ∧ b < e ∧ Cut top later (row.drop e) ∧ ∀ e', b < e' → e' < e → ¬ Cut top later (row.drop e')) ?_ bigN _ _ ⟨rfl, b + 1, by simp, by omega, by omega, fun e' h1 h2 => by omega⟩ ?_
  · rintro ev G' ⟨rfl, e, rfl, h1, h2, h3⟩
    have hpd : PosR (row.drop e) := fun c hc => hp c (List.mem_of_mem_drop hc)
    have hall : ∀ c ∈ row.drop e, 1 ≤ c ∧ c ≤ top := fun c hc => ⟨hpd c hc, ht c (List.mem_of_mem_drop hc)⟩
    have cs := can_spec (row := row.drop e) (s := li) (top := top) hpd (by omega) G'
    have sl : gSl (.tup (row.map .int)) (some (e : Int)) none G' = .ok (.tup ((row.drop e).map .int)) G' := by
      show R.ok (U.tup (cutU (row.map U.int) (some (e : Int)) none)) G' = _
      rw [cutU_from, List.map_drop]
    obtain ⟨ei, hei⟩ : ∃ ei : Int, ei = (e : Int) := ⟨_, rfl⟩
    rw [← hei] at sl ⊢
    have hc := cut_iff (s := later) hall
    obtain ⟨v, hv⟩ : ∃ v, v = (decide (li ≤ ((row.drop e).length : Int)) && decide (((need (row.drop e) top : Nat) : Int) ≤ li)) := ⟨_, rfl⟩
    rw [← hv] at cs
    rw [List.map_drop] at cs sl
    refine ⟨!v, G', by simp [sl, cs], fun hb' => ?_, fun hb' => ?_⟩
    · have hnc : ¬ Cut top later (row.drop e) := by
        rw [hc]
        intro ⟨q1, q2⟩
        have e1 : decide (li ≤ ((row.drop e).length : Int)) = true := decide_eq_true (by omega)
        have e2 : decide (((need (row.drop e) top : Nat) : Int) ≤ li) = true := decide_eq_true (by omega)
        rw [hv, e1, e2] at hb'
        exact nomatch hb'
      have hne : e ≠ e0 := fun z => hnc (z ▸ he0)
      have ee : sAug 7 gAugAdd (eC (.int 1)) [some c0, some s0, some (.tup (row.map .int)), some (.int top), some f0, some be, some (.int li), some (.int ei)] G' = .nx [some c0, some s0, some (.tup (row.map .int)), some (.int top), some f0, some be, some (.int li), some (.int (ei + 1))] G' := by simp
      rw [ee]
      refine ⟨⟨rfl, e + 1, by rw [hei]; simp, by omega, by omega, fun e' q1 q2 => ?_⟩, ?_⟩
      · by_cases z : e' = e
        · rw [z]; exact hnc
        · exact h3 e' q1 (by omega)
      · show ((e0 : Int) - (ei + 1)).toNat < ((e0 : Int) - ei).toNat
        omega
    · refine ⟨e, by rw [hei], h1, ?_, h3⟩
      rw [hc]
      have hv2 : v = true := by cases v <;> simp at hb' ⊢
      rw [hv] at hv2
      obtain ⟨q1, q2⟩ := Bool.and_eq_true_iff.mp hv2
      have q1 := of_decide_eq_true q1
      have q2 := of_decide_eq_true q2
      exact ⟨by omega, by omega⟩
  · show ((e0 : Int) - ((b : Int) + 1)).toNat < bigN
    unfold bigN
    omega
end K09

set_option Elab.async false
set_option linter.all false
set_option maxRecDepth 100000
set_option maxHeartbeats 4000000
set_option autoImplicit false
namespace K09
open PySem PySem.Spec L2 FL

def OkP (ps : List Int) : Prop := 1 ≤ ps.length ∧ ps.length ≤ 14 ∧ ∀ p ∈ ps, 1 ≤ p ∧ p ≤ 1000
theorem costs_eq {u : U} {G : Gp} {xs : List U} (h : F_checked_row [u, .int 14, .int 1, .int 1000] G = .ok (.tup xs) G) : F_checked_costs [u] G = .ok (.tup xs) G := by
  rw [run_checked_costs]; simp [g_checked_costs, h]
theorem costs_exc {u : U} {G : Gp} {c : Str} {fs : List (Str × U)} (h : F_checked_row [u, .int 14, .int 1, .int 1000] G = .exc c fs G) : F_checked_costs [u] G = .exc c fs G := by
  rw [run_checked_costs]; simp [g_checked_costs, h]
theorem okRow {ps : List Int} (h : OkP ps) : ∀ x ∈ ps.map U.int, noRef x ∧ inR x 1 1000 = true := fun x hx => by
  obtain ⟨p, hp, rfl⟩ := List.mem_map.mp hx
  have := h.2.2 p hp
  exact ⟨noRef_int _, by simp [inR, this.1, this.2]⟩
theorem row_ok {u : U} {ps : List Int} {G : Gp} (hu : isSeq u (ps.map .int) G) (h : OkP ps) : F_checked_row [u, .int 14, .int 1, .int 1000] G = .ok (.tup (ps.map .int)) G :=
  checked_row_ok hu (by simpa using h.1) (by have := h.2.1; simp; omega) (okRow h)
theorem cut_ok {u : U} {ps : List Int} {G : Gp} (hu : isSeq u (ps.map .int) G) (h : OkP ps) {s : Int} (h1 : 1 ≤ s) (h2 : s ≤ (ps.length : Int)) : F_checked_cut [u, .int s] G = .ok (.tup (ps.map .int)) G := by
  rw [run_checked_cut]
  have c := check_number_ok (lo := 1) (up := (ps.length : Int)) (noRef_int s) G (by simp [inR, h1, h2])
  simp [g_checked_cut, costs_eq (row_ok hu h), c]
theorem cut_num {u v : U} {ps : List Int} {G : Gp} (hu : isSeq u (ps.map .int) G) (h : OkP ps) (hv : noRef v) (hb : inR v 1 (ps.length : Int) = false) : F_checked_cut [u, v] G = .exc "InvalidNumber" [("number", v)] G := by
  rw [run_checked_cut]
  have c := check_number_bad (lo := 1) (up := (ps.length : Int)) hv G hb
  simp [g_checked_cut, costs_eq (row_ok hu h), c]
theorem cut_row {u v : U} {G : Gp} {c : Str} {fs : List (Str × U)} (h : F_checked_row [u, .int 14, .int 1, .int 1000] G = .exc c fs G) : F_checked_cut [u, v] G = .exc c fs G := by
  rw [run_checked_cut]
  simp [g_checked_cut, costs_exc h]
theorem OkP.pos {ps : List Int} (h : OkP ps) : PosR ps := fun c hc => (h.2.2 c hc).1
theorem OkP.ne {ps : List Int} (h : OkP ps) : ps ≠ [] := fun e => by have := h.1; rw [e] at this; simp at this
theorem sum_le {ps : List Int} (h : ∀ p ∈ ps, p ≤ 1000) : ps.sum ≤ 1000 * (ps.length : Int) := by
  induction ps with
  | nil => simp
  | cons d t ih =>
    have := ih (fun p hp => h p (List.mem_cons_of_mem _ hp))
    have := h d List.mem_cons_self
    rw [List.sum_cons, List.length_cons]
    omega
theorem OkP.sum {ps : List Int} (h : OkP ps) : ps.sum ≤ 14000 := by
  have := sum_le (fun p hp => (h.2.2 p hp).2)
  have := h.2.1
  omega
theorem least_ok {u : U} {ps : List Int} {G : Gp} (hu : isSeq u (ps.map .int) G) (h : OkP ps) {s : Nat} (h1 : 1 ≤ s) (h2 : s ≤ ps.length) : ∃ T, F_least_top [u, .int s] G = .ok (.int T) G ∧ IsTop ps s T := by
  obtain ⟨T, e, hT⟩ := top_spec h.pos h.ne h1 (by have := h.sum; omega) G
  refine ⟨T, ?_, hT⟩
  rw [run_least_top]
  have c := cut_ok hu h (s := (s : Int)) (by omega) (by omega)
  obtain ⟨si, hsi⟩ : ∃ si : Int, si = (s : Int) := ⟨_, rfl⟩
  rw [← hsi] at c e ⊢
  simp [g_least_top, c, e]
theorem IsTop.all {ps : List Int} (h : OkP ps) {s : Nat} {T : Int} (hT : IsTop ps s T) : ∀ c ∈ ps, 1 ≤ c ∧ c ≤ T := posR_le h.pos h.ne hT.1
theorem fewest_ok {u : U} {ps : List Int} {G : Gp} (hu : isSeq u (ps.map .int) G) (h : OkP ps) {t : Int} (h1 : maxL ps ≤ t) (h2 : t ≤ 20000) : F_fewest_stages [u, .int t] G = .ok (.int (need ps t : Nat)) G := by
  rw [run_fewest_stages]
  have bm : bMax [.tup (ps.map .int)] G = .ok (.int (maxL ps)) G := bInts_seq rfl (fun e => h.ne e.2)
  have c := check_number_ok (lo := maxL ps) (up := 20000) (noRef_int t) G (by simp [inR, h1, h2])
  simp [g_fewest_stages, costs_eq (row_ok hu h), bm, c, stages_spec h.pos]
theorem fewest_num {u v : U} {ps : List Int} {G : Gp} (hu : isSeq u (ps.map .int) G) (h : OkP ps) (hv : noRef v) (hb : inR v (maxL ps) 20000 = false) : F_fewest_stages [u, v] G = .exc "InvalidNumber" [("number", v)] G := by
  rw [run_fewest_stages]
  have bm : bMax [.tup (ps.map .int)] G = .ok (.int (maxL ps)) G := bInts_seq rfl (fun e => h.ne e.2)
  have c := check_number_bad (lo := maxL ps) (up := 20000) hv G hb
  simp [g_fewest_stages, costs_eq (row_ok hu h), bm, c]
theorem fewest_row {u v : U} {G : Gp} {c : Str} {fs : List (Str × U)} (h : F_checked_row [u, .int 14, .int 1, .int 1000] G = .exc c fs G) : F_fewest_stages [u, v] G = .exc c fs G := by
  rw [run_fewest_stages]
  simp [g_fewest_stages, costs_exc h]
theorem least_num {u v : U} {ps : List Int} {G : Gp} (hu : isSeq u (ps.map .int) G) (h : OkP ps) (hv : noRef v) (hb : inR v 1 (ps.length : Int) = false) : F_least_top [u, v] G = .exc "InvalidNumber" [("number", v)] G := by
  rw [run_least_top]
  simp [g_least_top, cut_num hu h hv hb]
theorem least_row {u v : U} {G : Gp} {c : Str} {fs : List (Str × U)} (h : F_checked_row [u, .int 14, .int 1, .int 1000] G = .exc c fs G) : F_least_top [u, v] G = .exc c fs G := by
  rw [run_least_top]
  simp [g_least_top, cut_row h]
theorem best_num {u v : U} {ps : List Int} {G : Gp} (hu : isSeq u (ps.map .int) G) (h : OkP ps) (hv : noRef v) (hb : inR v 1 (ps.length : Int) = false) : F_best_cut [u, v] G = .exc "InvalidNumber" [("number", v)] G := by
  rw [run_best_cut]
  simp [g_best_cut, cut_num hu h hv hb]
theorem best_row {u v : U} {G : Gp} {c : Str} {fs : List (Str × U)} (h : F_checked_row [u, .int 14, .int 1, .int 1000] G = .exc c fs G) : F_best_cut [u, v] G = .exc c fs G := by
  rw [run_best_cut]
  simp [g_best_cut, cut_row h]
def EnvB (u : U) (si : Int) (ps : List Int) (T : Int) (l : Nat) (b x y : Option U) : Ev := [some u, some (.int si), some (.tup (ps.map .int)), some (.int T), some (.ref l), b, x, y]
theorem best_ok {u : U} {ps : List Int} {G : Gp} (hu : isSeq u (ps.map .int) G) (h : OkP ps) {s : Nat} (h1 : 1 ≤ s) (h2 : s ≤ ps.length) : ∃ T c, F_best_cut [u, .int s] G = .ok (.tup (ofN c)) (G ++ [.lst (ofN c)]) ∧ IsTop ps s T ∧ Gre T ps (s - 1) 0 c := by
  obtain ⟨T, e, hT⟩ := top_spec h.pos h.ne h1 (by have := h.sum; omega) G
  have c := cut_ok hu h (s := (s : Int)) (by omega) (by omega)
  have hall := hT.all h
  have hcut : Cut T s ps := (cut_iff hall).mpr ⟨hT.2.1, h2⟩
  obtain ⟨si, hsi⟩ : ∃ si : Int, si = (s : Int) := ⟨_, rfl⟩
  rw [← hsi] at c e ⊢
  have L : ∃ (cs : List Nat) (b x y : Option U), sFor (iOfs (aCons (eC (.int 1)) (aCons (eVar 1) aNil)) kRevR) (gNm 6) g_best_cut_1 (EnvB u si ps T G.length (some (.int 0)) none none) (G ++ [.lst []]) = .nx (EnvB u si ps T G.length b x y) (G ++ [.lst (ofN cs)]) ∧ Gre T ps (s - 1) 0 cs := by
    obtain ⟨src, es, gs⟩ := kRev_gives (a := 1) (b := si) (by omega) (by omega) (by omega) (by have := h.2.1; omega) (G := G ++ [.lst []]) (I := fun i ev G' => ∃ (cs : List Nat) (b : Nat) (x y : Option U), ev = EnvB u si ps T G.length (some (.int (b : Nat))) x y ∧ G' = G ++ [.lst (ofN cs)] ∧ cs.length = i ∧ i ≤ s - 1 ∧ Cut T (s - 1 - i + 1) (ps.drop b) ∧ ∀ rest, Gre T ps (s - 1 - i) b rest → Gre T ps (s - 1) 0 (cs ++ rest))
    have hn : (si - 1).toNat = s - 1 := by omega
    have hf0 : aCons (eC (.int 1)) (aCons (eVar 1) aNil) (EnvB u si ps T G.length (some (.int 0)) none none) (G ++ [.lst []]) = .ok [.int 1, .int si] (G ++ [.lst []]) := by simp [EnvB]
    have hf := iOfs_ok hf0 es
    refine sFor_post (src := src) (G1 := G ++ [.lst []]) _ (fun r => ∃ (cs : List Nat) (b x y : Option U), r = .nx (EnvB u si ps T G.length b x y) (G ++ [.lst (ofN cs)]) ∧ Gre T ps (s - 1) 0 cs) hf gs ⟨[], 0, none, none, rfl, rfl, rfl, by omega, ?_, fun rest hr => by simpa using hr⟩ ?_ ?_
    · have : s - 1 - 0 + 1 = s := by omega
      rw [this]
      simpa using hcut
    · rintro i hi ev G' ⟨cs, b, x, y, rfl, rfl, hci, hi1, hcb, hg⟩
      have hi2 : i < s - 1 := by simpa [hn] using hi
      obtain ⟨m, hm⟩ : ∃ m, s - 1 - i = m + 1 := ⟨s - 1 - i - 1, by omega⟩
      obtain ⟨li, hli⟩ : ∃ li : Int, li = ((m + 1 : Nat) : Int) := ⟨_, rfl⟩
      have hit : ((List.range (si - 1).toNat).map fun i => U.int (1 + (((si - 1).toNat : Nat) : Int) - 1 + (i : Nat) * (-1)))[i] = .int li := by
        rw [List.getElem_map, List.getElem_range]
        congr 1
        omega
      rw [hit]
      rw [hm] at hcb hg
      obtain ⟨e0, q1, q2, q3, q4⟩ := hcb
      rw [List.drop_drop] at q4
      obtain ⟨ee, w, w1, w2, w3⟩ := find_end (row := ps) (top := T) h.pos (fun c hc => (hall c hc).2) (later := m + 1) (by omega) (by have := h.2.1; omega) (b := b) (e0 := b + e0) (by omega) q4 u (.int si) (.ref G.length) (.int (b : Nat)) (G ++ [.lst (ofN cs)])
      obtain ⟨bi, hbi⟩ : ∃ bi : Int, bi = ((b : Nat) : Int) := ⟨_, rfl⟩
      obtain ⟨ei, hei⟩ : ∃ ei : Int, ei = ((ee : Nat) : Int) := ⟨_, rfl⟩
      rw [← hli, ← hbi, ← hei] at w
      rw [← hbi]
      change whileN _ _ bigN (EnvB u si ps T G.length (some (.int bi)) (some (.int li)) (some (.int (bi + 1)))) _ = SR.nx (EnvB u si ps T G.length (some (.int bi)) (some (.int li)) (some (.int ei))) _ at w
      have hat : (G ++ [OU.lst (ofN cs)])[G.length]? = some (.lst (ofN cs)) := push_at _ _
      have ap := mAppend_ref (y := .int ei) hat (by simp [ofN]; have := h.2.1; omega)
      have is := isLst_ref hat
      have es : (G ++ [OU.lst (ofN cs)]).set G.length (.lst (ofN cs ++ [.int ei])) = G ++ [.lst (ofN (cs ++ [ee]))] := by
        rw [List.set_append_right _ _ (Nat.le_refl _)]
        simp [ofN, hei]
      rw [es] at ap
      have fine : g_best_cut_1 (EnvB u si ps T G.length (some (.int bi)) (some (.int li)) y) (G ++ [.lst (ofN cs)]) = .nx (EnvB u si ps T G.length (some (.int ei)) (some (.int li)) (some (.int ei))) (G ++ [.lst (ofN (cs ++ [ee]))]) := by
        unfold g_best_cut_1
        rw [seq_nx (e' := EnvB u si ps T G.length (some (.int bi)) (some (.int li)) (some (.int (bi + 1)))) (G' := G ++ [.lst (ofN cs)]) (by simp [EnvB]), seq_nx w]
        simp [eMeth_, is, ap, EnvB]
      have fine2 : (gNm 6 (.int li) (EnvB u si ps T G.length (some (.int bi)) x y) (G ++ [.lst (ofN cs)])).andThen (EnvB u si ps T G.length (some (.int bi)) x y) (fun env1 G1 => g_best_cut_1 env1 G1) = .nx (EnvB u si ps T G.length (some (.int ei)) (some (.int li)) (some (.int ei))) (G ++ [.lst (ofN (cs ++ [ee]))]) := fine
      rw [fine2]
      refine ⟨cs ++ [ee], ee, _, _, by rw [hei], rfl, by simp [hci], by omega, ?_, fun rest hr => ?_⟩
      · have : s - 1 - (i + 1) + 1 = m + 1 := by omega
        rw [this]; exact w2
      · have e1 : s - 1 - (i + 1) = m := by omega
        rw [e1] at hr
        have := hg (ee :: rest) ⟨ee, rest, rfl, w1, w2, w3, hr⟩
        simpa using this
    · rintro ev G' ⟨cs, b, x, y, rfl, rfl, hci, hi1, hcb, hg⟩
      refine ⟨cs, _, x, y, rfl, ?_⟩
      have e1 : ((List.range (si - 1).toNat).map fun i => U.int (1 + (((si - 1).toNat : Nat) : Int) - 1 + (i : Nat) * (-1))).length = s - 1 := by simp [hn]
      rw [e1] at hg
      have := hg [] (by rw [Nat.sub_self]; rfl)
      simpa using this
  obtain ⟨cs, b, x, y, L, hg⟩ := L
  refine ⟨T, cs, ?_, hT, hg⟩
  have bt : bTuple [.ref G.length] (G ++ [.lst (ofN cs)]) = .ok (.tup (ofN cs)) (G ++ [.lst (ofN cs)]) := bTuple_seq (by rw [seqU_ref, push_at])
  rw [run_best_cut]
  unfold g_best_cut
  rw [seq_nx (e' := [some u, some (.int si), some (.tup (ps.map .int)), none, none, none, none, none]) (G' := G) (by simp [c]), seq_nx (e' := [some u, some (.int si), some (.tup (ps.map .int)), some (.int T), none, none, none, none]) (G' := G) (by simp [e]),
    seq_nx (e' := [some u, some (.int si), some (.tup (ps.map .int)), some (.int T), some (.ref G.length), none, none, none]) (G' := G ++ [.lst []]) (by simp), seq_nx (e' := EnvB u si ps T G.length (some (.int 0)) none none) (G' := G ++ [.lst []]) (by simp [EnvB]), seq_nx L]
  simp [bt, EnvB]
end K09

set_option Elab.async false
set_option linter.all false
set_option maxRecDepth 100000
set_option maxHeartbeats 4000000
set_option autoImplicit false
namespace K09
open PySem PySem.Spec L2 FL

/-! ### tables of begins -/
def OkT (ps : List Int) : Prop := 1 ≤ ps.length ∧ ps.length ≤ 6 ∧ ∀ p ∈ ps, 1 ≤ p ∧ p ≤ 20
def Bs (t : Nat → Int) (n r k s : Nat) : List Int := (List.range k).map fun i => B t n r i s
theorem Bs_len (t : Nat → Int) (n r k s : Nat) : (Bs t n r k s).length = k := by simp [Bs]
theorem Bs_get {t : Nat → Int} {n r k s i : Nat} (h : i < k) : ((Bs t n r k s).map U.int)[i]? = some (.int (B t n r i s)) := by
  unfold Bs
  rw [List.map_map, List.getElem?_map, List.getElem?_range h]
  rfl
theorem Bs_succ (t : Nat → Int) (n r k s : Nat) : (Bs t n r (k + 1) s).map U.int = (Bs t n r k s).map U.int ++ [.int (B t n r k s)] := by
  unfold Bs
  rw [List.range_succ, List.map_append, List.map_append]
  rfl
structure Tab (G : Gp) (l : Nat) (t : Nat → Int) (n r : Nat) (k : Nat → Nat) : Prop where
  top : G[l]? = some (.lst ((List.range n).map fun s => U.ref (l + 1 + s)))
  row : ∀ s, s < n → G[l + 1 + s]? = some (.lst ((Bs t n r (k s) s).map .int))
section
variable {G G' : Gp} {l : Nat} {t : Nat → Int} {n r : Nat} {k k' : Nat → Nat}
theorem Tab.ex (T : Tab G l t n r k) (x : Ex0 G G') : Tab G' l t n r k := ⟨x.at_ T.top, fun s hs => x.at_ (T.row s hs)⟩
theorem Tab.add (T : Tab G l t n r k) {s : Nat} (hs : s < n) (hk : ∀ q, q < n → k' q = if q = s then k s + 1 else k q) : Tab (G.set (l + 1 + s) (.lst ((Bs t n r (k s) s).map U.int ++ [.int (B t n r (k s) s)]))) l t n r k' := by
  refine ⟨?_, fun q hq => ?_⟩
  · rw [List.getElem?_set_ne (by omega)]; exact T.top
  · rw [hk q hq]
    by_cases c : q = s
    · subst c
      rw [if_pos rfl, Bs_succ]
      exact set_get (T.row q hq)
    · rw [if_neg c, List.getElem?_set_ne (by omega)]
      exact T.row q hq
theorem Tab.same (T : Tab G l t n r k) (hk : ∀ q, q < n → k' q = k q) : Tab G l t n r k' := ⟨T.top, fun q hq => by rw [hk q hq]; exact T.row q hq⟩
theorem Tab.idx (T : Tab G l t n r k) {s : Nat} {i : Int} (hs : s < n) (hi : i = (s : Int)) : gIdx (.ref l) (.int i) G = .ok (.ref (l + 1 + s)) G := by
  refine gIdx_ref T.top (atI_pos (by omega) ?_)
  rw [show i.toNat = s by omega, List.getElem?_map, List.getElem?_range hs]
  rfl
theorem Tab.last (T : Tab G l t n r k) (hn : 0 < n) : gIdx (.ref l) (.int (-1)) G = .ok (.ref (l + 1 + (n - 1))) G := by
  refine gIdx_ref T.top (atI_last ?_)
  rw [List.getLast?_eq_getElem?, List.length_map, List.length_range, List.getElem?_map, List.getElem?_range (by omega)]
  rfl
theorem Tab.cell (T : Tab G l t n r k) {s j : Nat} {i : Int} (hs : s < n) (hj : j < k s) (hi : i = (j : Int)) : gIdx (.ref (l + 1 + s)) (.int i) G = .ok (.int (B t n r j s)) G := by
  refine gIdx_ref (T.row s hs) (atI_pos (by omega) ?_)
  rw [show i.toNat = j by omega]
  exact Bs_get hj
theorem Tab.end_ (T : Tab G l t n r k) {s : Nat} (hs : s < n) (hj : 0 < k s) : gIdx (.ref (l + 1 + s)) (.int (-1)) G = .ok (.int (B t n r (k s - 1) s)) G := by
  refine gIdx_ref (T.row s hs) (atI_last ?_)
  rw [List.getLast?_eq_getElem?, List.length_map, Bs_len]
  exact Bs_get (by omega)
theorem Tab.len (T : Tab G l t n r k) {s : Nat} (hs : s < n) : bLen [.ref (l + 1 + s)] G = .ok (.int (k s : Nat)) G := by
  rw [bLen_seq (seqU_of (T.row s hs)), List.length_map, Bs_len]
end
def tabU (t : Nat → Int) (n r m : Nat) : U := .tup ((List.range n).map fun s => .tup ((Bs t n r m s).map .int))
/-- the times -/
def tOf (ps : List Int) (s : Nat) : Int := ps.getD s 0
theorem tOf_lt {ps : List Int} {s : Nat} (h : s < ps.length) : tOf ps s = ps[s] := by
  unfold tOf
  rw [List.getD_eq_getElem?_getD, List.getElem?_eq_getElem h]; rfl
theorem tOf_get {ps : List Int} {s : Nat} (h : s < ps.length) : (ps.map U.int)[s]? = some (.int (tOf ps s)) := by
  rw [tOf_lt h, List.getElem?_map, List.getElem?_eq_getElem h]; rfl
theorem tOf_pos {ps : List Int} (h : OkT ps) : ∀ s, s < ps.length → 1 ≤ tOf ps s := fun s hs => by
  rw [tOf_lt hs]; exact (h.2.2 _ (List.getElem_mem hs)).1
theorem tOf_le {ps : List Int} (h : OkT ps) : ∀ s, s < ps.length → tOf ps s ≤ 20 := fun s hs => by
  rw [tOf_lt hs]; exact (h.2.2 _ (List.getElem_mem hs)).2
/-- the table out of the lists -/
theorem tab_tuple {own : List Nat} {j : Nat} {fo : Ev → Gp → R U} {env : Ev} {G : Gp} {l : Nat} {t : Nat → Int} {n r m : Nat} (hn : n < 1000) (hj : ∀ u, (((wipeE env own).set j (some u))[j]? : Option (Option U)) = some (some u)) (ho : fo env G = .ok (.ref l) G) (T : Tab G l t n r fun _ => m) :
    ∃ G', (eCall bTuple (aCons (eComp own (iOf fo kSeq) (gNm j) tYesB (eCall bTuple (aCons (eVar j) aNil))) aNil)) env G = .ok (tabU t n r m) G' ∧ Ex0 G G' := by
  obtain ⟨src, e1, hs⟩ := srcx_ref T.top
  obtain ⟨G', e2, x2, at2⟩ := comp_pure (own := own) (gf := gNm j) (ft := tYesB) (fe := eCall bTuple (aCons (eVar j) aNil)) (env := env) (G := G) (G1 := G) (g := fun s => U.ref (l + 1 + s)) (fun _ => true) (fun s => U.tup ((Bs t n r m s).map .int)) (iOf_ok ho e1) hs (by simp; omega) (fun i hi G2 x => by
    have hi' : i < n := by simpa using hi
    rw [List.getElem_range]
    refine ⟨_, rfl, rfl, fun _ => ?_⟩
    have := hj (.ref (l + 1 + i))
    have b := bTuple_seq (seqU_of ((T.ex x).row i hi'))
    simp [this, b])
  refine ⟨G', ?_, x2⟩
  have e3 : (List.range n).filter (fun _ => true) = List.range n := List.filter_eq_self.mpr fun _ _ => rfl
  rw [e3] at at2
  have b := bTuple_seq (seqU_of at2)
  simp [e2, b, tabU]

/-! ### begins_within -/
/-- when an item is ready for a stage -/
def rdy (t : Nat → Int) (n r i : Nat) : Nat → Int
  | 0 => st t n r i
  | s + 1 => B t n r i s + t s
theorem B_rdy0 {t : Nat → Int} {n r : Nat} (hr : 0 < r) : ∀ s, B t n r 0 s = rdy t n r 0 s
  | 0 => by
    rw [B_00]
    show (0 : Int) = st t n r 0
    unfold st
    rw [if_neg (by omega)]
  | s + 1 => B_0s s
theorem B_rdy {t : Nat → Int} {n r i : Nat} : ∀ s, B t n r (i + 1) s = max (rdy t n r (i + 1) s) (B t n r i s + t s)
  | 0 => B_i0 i
  | s + 1 => B_is i s
def EnvW (ps : List Int) (m r : Int) (L : Nat) (a b c d : Option U) : Ev := [some (.tup (ps.map .int)), some (.int m), some (.int r), some (.ref L), a, b, c, d, none]
theorem within_in {ps : List Int} {m r : Int} {L i s : Nat} {x : Int} {G : Gp} {rn : Nat} (hr : 0 < rn) (hs : s < ps.length) (T : Tab G L (tOf ps) ps.length rn fun q => if q < s then i + 1 else i) (hi : i < 1000) :
    ∃ G', g_begins_within_3 (EnvW ps m r L (some (.int (i : Nat))) (some (.int (rdy (tOf ps) ps.length rn i s))) (some (.int (s : Nat))) (some (.int (tOf ps s)))) G =
        .nx (EnvW ps m r L (some (.int (i : Nat))) (some (.int (rdy (tOf ps) ps.length rn i (s + 1)))) (some (.int (s : Nat))) (some (.int (tOf ps s)))) G' ∧ (∀ G0, Ex0 G0 G → G0.length ≤ L → Ex0 G0 G') ∧ Tab G' L (tOf ps) ps.length rn fun q => if q < s + 1 then i + 1 else i := by
  obtain ⟨n, hn⟩ : ∃ n, n = ps.length := ⟨_, rfl⟩
  rw [← hn] at hs T ⊢
  obtain ⟨t, ht⟩ : ∃ t, t = tOf ps := ⟨_, rfl⟩
  rw [← ht] at T ⊢
  have ix := T.idx hs rfl
  have row := T.row s hs
  have hks : (if s < s then i + 1 else i) = i := if_neg (Nat.lt_irrefl s)
  rw [hks] at row
  have hap : ∀ b, mAppend (.ref (L + 1 + s)) [.int b] G = .ok .non (G.set (L + 1 + s) (.lst ((Bs t n rn i s).map U.int ++ [.int b]))) := fun b => mAppend_ref row (by simp [Bs_len]; omega)
  have il := isLst_ref row
  have ta := T.add (k' := fun q => if q < s + 1 then i + 1 else i) hs (fun q _ => by
    by_cases c : q = s
    · subst c; simp
    · by_cases c2 : q < s
      · rw [if_pos (by omega), if_neg c, if_pos c2]
      · rw [if_neg (by omega), if_neg c, if_neg c2])
  simp only [hks] at ta
  refine ⟨G.set (L + 1 + s) (.lst ((Bs t n rn i s).map U.int ++ [.int (B t n rn i s)])), ?_, fun G0 x h => ex0_set x (by omega) _, ta⟩
  have nxt : rdy t n rn i (s + 1) = B t n rn i s + t s := rfl
  rw [nxt]
  have cell : 0 < i → gIdx (.ref (L + 1 + s)) (.int ((i : Nat) - 1)) G = .ok (.int (B t n rn (i - 1) s)) G := fun h => T.cell (j := i - 1) hs (by rw [hks]; omega) (by omega)
  have hB0 : i = 0 → B t n rn i s = rdy t n rn i s := fun e => by subst e; exact B_rdy0 hr s
  have hB1 : 0 < i → B t n rn i s = max (rdy t n rn i s) (B t n rn (i - 1) s + t s) := fun h => by
    obtain ⟨j, rfl⟩ : ∃ j, i = j + 1 := ⟨i - 1, by omega⟩
    exact B_rdy s
  generalize B t n rn i s = b at hB0 hB1 ⊢
  generalize rdy t n rn i s = rd at hB0 hB1 ⊢
  have hapb := hap b
  clear hap
  generalize G.set (L + 1 + s) (.lst ((Bs t n rn i s).map U.int ++ [.int b])) = G' at hapb ⊢
  generalize hsi : ((s : Nat) : Int) = si at ix ⊢
  by_cases i0 : i = 0
  · have := hB0 i0
    subst this
    subst i0
    unfold g_begins_within_3
    rw [seq_nx (e' := EnvW ps m r L (some (.int (0 : Nat))) (some (.int b)) (some (.int si)) (some (.int (t s)))) (G' := G) (by simp [EnvW]), seq_nx (e' := EnvW ps m r L (some (.int (0 : Nat))) (some (.int b)) (some (.int si)) (some (.int (t s)))) (G' := G') (by simp [EnvW, eMeth_, ix, il, hapb])]
    simp [EnvW]
  · have := hB1 (by omega)
    have cell := cell (by omega)
    generalize hii : ((i : Nat) : Int) = ii at cell ⊢
    have hii0 : 0 < ii := by omega
    unfold g_begins_within_3
    rw [seq_nx (e' := EnvW ps m r L (some (.int ii)) (some (.int b)) (some (.int si)) (some (.int (t s)))) (G' := G) (by simp [EnvW, hii0, g_begins_within_2, ix, cell, this]), seq_nx (e' := EnvW ps m r L (some (.int ii)) (some (.int b)) (some (.int si)) (some (.int (t s)))) (G' := G') (by simp [EnvW, eMeth_, ix, il, hapb])]
    simp [EnvW]
theorem within_item {ps : List Int} {m : Int} {L i : Nat} {G G0 : Gp} {rn : Nat} {b c d : Option U} (hp : OkT ps) (hr : 0 < rn) (x0 : Ex0 G0 G) (hL : G0.length ≤ L) (T : Tab G L (tOf ps) ps.length rn fun _ => i) (hi : i < 1000) :
    ∃ b' c' d' G', g_begins_within_4 (EnvW ps m (rn : Nat) L (some (.int (i : Nat))) b c d) G = .nx (EnvW ps m (rn : Nat) L (some (.int (i : Nat))) b' c' d') G' ∧ Ex0 G0 G' ∧ Tab G' L (tOf ps) ps.length rn fun _ => i + 1 := by
  have hn0 : 0 < ps.length := hp.1
  obtain ⟨rI, hrI⟩ : ∃ rI : Int, rI = (rn : Int) := ⟨_, rfl⟩
  rw [← hrI]
  have s1 : sIf (bVal (eBin gGe (eVar 4) (eVar 2))) g_begins_within_1 sNil (EnvW ps m rI L (some (.int (i : Nat))) (some (.int 0)) c d) G = .nx (EnvW ps m rI L (some (.int (i : Nat))) (some (.int (rdy (tOf ps) ps.length rn i 0))) c d) G := by
    show _ = SR.nx (EnvW ps m rI L (some (.int (i : Nat))) (some (.int (st (tOf ps) ps.length rn i))) c d) G
    by_cases ci : rn ≤ i
    · have hst : st (tOf ps) ps.length rn i = B (tOf ps) ps.length rn (i - rn) (ps.length - 1) + tOf ps (ps.length - 1) := by unfold st; rw [if_pos ⟨hr, ci⟩]
      rw [hst]
      have la := T.last hn0
      have ce := T.cell (s := ps.length - 1) (j := i - rn) (i := (i : Int) - rI) (by omega) (by omega) (by omega)
      have rl : gIdx (.tup (ps.map .int)) (.int (-1)) G = .ok (.int (tOf ps (ps.length - 1))) G := gIdx_tup (atI_last (by rw [List.getLast?_eq_getElem?, List.length_map]; exact tOf_get (by omega)))
      have hle : rI ≤ (i : Int) := by omega
      generalize ((i : Nat) : Int) = ii at ce hle ⊢
      simp [EnvW, hle, g_begins_within_1, la, ce, rl]
    · have hst : st (tOf ps) ps.length rn i = 0 := by unfold st; rw [if_neg (by omega)]
      rw [hst]
      have hle : ¬ rI ≤ (i : Int) := by omega
      generalize ((i : Nat) : Int) = ii at hle ⊢
      simp [EnvW, hle]
  have L2 : ∃ b' c' d' G', sFor (iOfs (aCons (eVar 0) aNil) kEnum) (FL.gTup (FL.gCons (gNm 6) (FL.gCons (gNm 7) FL.gNil)) 2) g_begins_within_3 (EnvW ps m rI L (some (.int (i : Nat))) (some (.int (rdy (tOf ps) ps.length rn i 0))) c d) G = .nx (EnvW ps m rI L (some (.int (i : Nat))) b' c' d') G' ∧ Ex0 G0 G' ∧ Tab G' L (tOf ps) ps.length rn fun _ => i + 1 := by
    refine sFor_post (src := .items ((ps.map U.int).mapIdx fun i x => U.tup [.int (i : Nat), x])) (xs := (ps.map U.int).mapIdx fun i x => U.tup [.int (i : Nat), x]) (G1 := G)
      (fun s e G' => ∃ c d, e = EnvW ps m rI L (some (.int (i : Nat))) (some (.int (rdy (tOf ps) ps.length rn i s))) c d ∧ Ex0 G0 G' ∧ Tab G' L (tOf ps) ps.length rn fun q => if q < s then i + 1 else i)
      (fun r => ∃ b' c' d' G', r = .nx (EnvW ps m rI L (some (.int (i : Nat))) b' c' d') G' ∧ Ex0 G0 G' ∧ Tab G' L (tOf ps) ps.length rn fun _ => i + 1) (iOfs_ok (us := [.tup (ps.map .int)]) (by simp [EnvW]) rfl) gives_items ⟨c, d, rfl, x0, T.same fun q _ => if_neg (Nat.not_lt_zero q)⟩ ?_ ?_
    · intro s hs e G' hI
      obtain ⟨c, d, he, x1, T1⟩ := hI
      subst he
      have hs' : s < ps.length := by simpa using hs
      have hget : ((ps.map U.int).mapIdx fun i x => U.tup [.int (i : Nat), x])[s] = .tup [.int (s : Nat), .int (tOf ps s)] := by
        rw [List.getElem_mapIdx, List.getElem_map, tOf_lt hs']
      rw [hget]
      obtain ⟨G2, e2, x2, T2⟩ := within_in (x := 0) (m := m) (r := rI) hr hs' T1 hi
      have fine : (FL.gTup (FL.gCons (gNm 6) (FL.gCons (gNm 7) FL.gNil)) 2 (.tup [.int (s : Nat), .int (tOf ps s)]) (EnvW ps m rI L (some (.int (i : Nat))) (some (.int (rdy (tOf ps) ps.length rn i s))) c d) G').andThen (EnvW ps m rI L (some (.int (i : Nat))) (some (.int (rdy (tOf ps) ps.length rn i s))) c d) (fun env1 G1 => g_begins_within_3 env1 G1) =
          .nx (EnvW ps m rI L (some (.int (i : Nat))) (some (.int (rdy (tOf ps) ps.length rn i (s + 1)))) (some (.int (s : Nat))) (some (.int (tOf ps s)))) G2 := by
        rw [← e2]
        generalize ((s : Nat) : Int) = si
        simp [EnvW]
      rw [fine]
      exact ⟨_, _, rfl, x2 G0 x1 hL, T2⟩
    · intro e G' hI
      obtain ⟨c, d, he, x1, T1⟩ := hI
      subst he
      exact ⟨_, c, d, G', rfl, x1, T1.same fun q hq => by rw [if_pos (by simpa using hq)]⟩
  obtain ⟨b', c', d', G', e2, x2, T2⟩ := L2
  refine ⟨b', c', d', G', ?_, x2, T2⟩
  unfold g_begins_within_4
  rw [seq_nx (e' := EnvW ps m rI L (some (.int (i : Nat))) (some (.int 0)) c d) (G' := G) (by generalize ((i : Nat) : Int) = ii; simp [EnvW]), seq_nx s1, e2]
theorem within_spec {ps : List Int} {mn rn : Nat} (hp : OkT ps) (hr : 0 < rn) (hm : mn ≤ 20) (G : Gp) : ∃ G', F_begins_within [.tup (ps.map .int), .int (mn : Nat), .int (rn : Nat)] G = .ok (tabU (tOf ps) ps.length rn mn) G' ∧ Ex0 G G' := by
  rw [run_begins_within]
  have hl := hp.2.1
  obtain ⟨src, e1, hs⟩ : ∃ src, kSeq (.tup (ps.map .int)) G = some src ∧ SrcX src (ps.map .int) G := ⟨_, srcx_tup.1, srcx_tup.2⟩
  have hf0 : eVar 0 (EnvW ps (mn : Nat) (rn : Nat) 0 none none none none) G = .ok (.tup (ps.map .int)) G := by simp [EnvW]
  obtain ⟨G1, e2, x1, top, rows⟩ := comp_fresh (own := [8]) (G := G) (fi := iOf (eVar 0) kSeq) (gf := gNm 8) (fe := eLst aNil) (env := [some (.tup (ps.map .int)), some (.int (mn : Nat)), some (.int (rn : Nat)), none, none, none, none, none, none]) (g := U.int) (fun _ => ([] : List U)) (iOf_ok (by simp) e1) hs (by omega) (fun i hi G2 x => ⟨_, rfl, by rfl⟩)
  have T1 : Tab G1 G.length (tOf ps) ps.length rn fun _ => 0 := ⟨top, fun s hs => by rw [rows s hs]; rfl⟩
  obtain ⟨mi, hmi⟩ : ∃ mi : Int, mi = (mn : Int) := ⟨_, rfl⟩
  rw [← hmi] at e2 ⊢
  have L : ∃ a b c d G2, sFor (iOfs (aCons (eVar 1) aNil) kRng1) (gNm 4) g_begins_within_4 (EnvW ps mi (rn : Nat) G.length none none none none) G1 = .nx (EnvW ps mi (rn : Nat) G.length a b c d) G2 ∧ Ex0 G G2 ∧ Tab G2 G.length (tOf ps) ps.length rn fun _ => mn := by
    refine sFor_rng1 (j := mi) (G1 := G1) (fun i e G' => ∃ a b c d, e = EnvW ps mi (rn : Nat) G.length a b c d ∧ Ex0 G G' ∧ Tab G' G.length (tOf ps) ps.length rn fun _ => i) (fun r => ∃ a b c d G2, r = .nx (EnvW ps mi (rn : Nat) G.length a b c d) G2 ∧ Ex0 G G2 ∧ Tab G2 G.length (tOf ps) ps.length rn fun _ => mn) (by simp [EnvW]) (by omega) (by omega) ⟨_, _, _, _, rfl, x1, T1⟩ ?_ ?_
    · intro i hi e G' hI
      obtain ⟨a, b, c, d, he, x2, T2⟩ := hI
      subst he
      obtain ⟨b', c', d', G2, e3, x3, T3⟩ := within_item (m := mi) (b := b) (c := c) (d := d) hp hr x2 (Nat.le_refl _) T2 (by omega)
      have se : (EnvW ps mi (rn : Nat) G.length a b c d).set 4 (some (.int (i : Nat))) = EnvW ps mi (rn : Nat) G.length (some (.int (i : Nat))) b c d := rfl
      rw [gNm_, r_then_ok, se, e3]
      exact ⟨_, _, _, _, rfl, x3, T3⟩
    · intro e G' hI
      obtain ⟨a, b, c, d, he, x2, T2⟩ := hI
      subst he
      exact ⟨a, b, c, d, G', rfl, x2, T2.same fun q _ => by omega⟩
  obtain ⟨a, b, c, d, G2, e3, x2, T2⟩ := L
  obtain ⟨G3, e4, x3⟩ := tab_tuple (own := [6]) (j := 6) (fo := eVar 3) (env := EnvW ps mi (rn : Nat) G.length a b c d) (by omega) (fun u => rfl) (by simp [EnvW]) T2
  refine ⟨G3, ?_, x2.trans x3⟩
  generalize ((rn : Nat) : Int) = ri at e2 e3 e4 ⊢
  unfold g_begins_within
  rw [seq_nx (e' := EnvW ps mi ri G.length none none none none) (G' := G1) (by simp [EnvW, e2]), seq_nx e3]
  rw [sRet_, e4]
  rfl
end K09

set_option Elab.async false
set_option linter.all false
set_option maxRecDepth 100000
set_option maxHeartbeats 4000000
set_option autoImplicit false
namespace K09
open PySem PySem.Spec L2 FL

/-! ### loops that end early with False -/
theorem for_all {fi : Ev → Gp → R Src} {gf : U → Ev → Gp → R Ev} {body : Ev → Gp → SR} {env : Ev} {G G1 : Gp} {src : Src} {xs : List U} (I : Nat → Ev → Gp → Prop) (Q : Nat → Prop) (J : Gp → Prop) (hf : fi env G = .ok src G1) (hs : xs.length < src.fuel ∧ ∀ i env G, i ≤ xs.length → I i env G → src.at_ i G = some xs[i]?) (h0 : I 0 env G1)
    (step : ∀ (i : Nat) (hi : i < xs.length) (env : Ev) (G : Gp), I i env G → (Q i ∧ ∃ e' G', (gf xs[i] env G).andThen env (fun env1 G1 => body env1 G1) = .nx e' G' ∧ I (i + 1) e' G') ∨ (¬ Q i ∧ ∃ G', (gf xs[i] env G).andThen env (fun env1 G1 => body env1 G1) = .ret (.bl false) G' ∧ J G')) :
    ((∀ i, i < xs.length → Q i) ∧ ∃ e' G', sFor fi gf body env G = .nx e' G' ∧ I xs.length e' G') ∨ (¬ (∀ i, i < xs.length → Q i) ∧ ∃ G', sFor fi gf body env G = .ret (.bl false) G' ∧ J G') := by
  refine sFor_post (src := src) (xs := xs) (G1 := G1) (fun i e G => I i e G ∧ ∀ j, j < i → Q j) (fun r => ((∀ i, i < xs.length → Q i) ∧ ∃ e' G', r = .nx e' G' ∧ I xs.length e' G') ∨ (¬ (∀ i, i < xs.length → Q i) ∧ ∃ G', r = .ret (.bl false) G' ∧ J G')) hf ⟨hs.1, fun i e G h hI => hs.2 i e G h hI.1⟩ ⟨h0, fun j h => absurd h (Nat.not_lt_zero j)⟩ ?_ ?_
  · intro i hi e G2 hI
    rcases step i hi e G2 hI.1 with ⟨hq, e', G', h1, h2⟩ | ⟨hq, G', h1, h2⟩
    · rw [h1]
      refine ⟨h2, fun j hj => ?_⟩
      by_cases c : j = i
      · rw [c]; exact hq
      · exact hI.2 j (by omega)
    · rw [h1]
      exact Or.inr ⟨fun h => hq (h i hi), G', rfl, h2⟩
  · intro e G2 hI
    exact Or.inl ⟨hI.2, e, G2, rfl, hI.1⟩
theorem for_all_tup {f : Ev → Gp → R U} {gf : U → Ev → Gp → R Ev} {body : Ev → Gp → SR} {env : Ev} {G G1 : Gp} {xs : List U} (I : Nat → Ev → Gp → Prop) (Q : Nat → Prop) (J : Gp → Prop) (hf : f env G = .ok (.tup xs) G1) (h0 : I 0 env G1)
    (step : ∀ (i : Nat) (hi : i < xs.length) (env : Ev) (G : Gp), I i env G → (Q i ∧ ∃ e' G', (gf xs[i] env G).andThen env (fun env1 G1 => body env1 G1) = .nx e' G' ∧ I (i + 1) e' G') ∨ (¬ Q i ∧ ∃ G', (gf xs[i] env G).andThen env (fun env1 G1 => body env1 G1) = .ret (.bl false) G' ∧ J G')) :
    ((∀ i, i < xs.length → Q i) ∧ ∃ e' G', sFor (iOf f kSeq) gf body env G = .nx e' G' ∧ I xs.length e' G') ∨ (¬ (∀ i, i < xs.length → Q i) ∧ ∃ G', sFor (iOf f kSeq) gf body env G = .ret (.bl false) G' ∧ J G') :=
  for_all I Q J (iOf_ok hf rfl) gives_items h0 step
theorem for_all_rng {fa : Ev → Gp → R (List U)} {gf : U → Ev → Gp → R Ev} {body : Ev → Gp → SR} {env : Ev} {G G1 : Gp} {j : Int} {n : Nat} (I : Nat → Ev → Gp → Prop) (Q : Nat → Prop) (J : Gp → Prop) (hf : fa env G = .ok [.int j] G1) (hj : j = (n : Int)) (hn : n < 1000000) (h0 : I 0 env G1)
    (step : ∀ (i : Nat) (hi : i < n) (env : Ev) (G : Gp), I i env G → (Q i ∧ ∃ e' G', (gf (.int (i : Nat)) env G).andThen env (fun env1 G1 => body env1 G1) = .nx e' G' ∧ I (i + 1) e' G') ∨ (¬ Q i ∧ ∃ G', (gf (.int (i : Nat)) env G).andThen env (fun env1 G1 => body env1 G1) = .ret (.bl false) G' ∧ J G')) :
    ((∀ i, i < n → Q i) ∧ ∃ e' G', sFor (iOfs fa kRng1) gf body env G = .nx e' G' ∧ I n e' G') ∨ (¬ (∀ i, i < n → Q i) ∧ ∃ G', sFor (iOfs fa kRng1) gf body env G = .ret (.bl false) G' ∧ J G') := by
  obtain ⟨src, e, g⟩ := gives_rng1 (I := I) (j := j) (by omega) (by omega) (G := G1)
  have hl : (rng 0 j.toNat).length = n := by rw [rng_len]; omega
  have := for_all (xs := rng 0 j.toNat) I Q J (iOfs_ok hf e) g h0 (fun i hi env G hI => by
    rw [rng_get, show (0 : Int) + ((i : Nat) : Int) = ((i : Nat) : Int) by omega]
    exact step i (by omega) env G hI)
  rw [hl] at this
  exact this

/-! ### tables of ints -/
def rowU (v : Nat → Nat → Int) (m s : Nat) : List U := (List.range m).map fun i => .int (v i s)
def tbU (v : Nat → Nat → Int) (n m : Nat) : U := .tup ((List.range n).map fun s => .tup (rowU v m s))
theorem tabU_eq (t : Nat → Int) (n r m : Nat) : tabU t n r m = tbU (B t n r) n m := by
  unfold tabU tbU rowU Bs
  simp [List.map_map, Function.comp_def]
theorem rowU_len (v : Nat → Nat → Int) (m s : Nat) : (rowU v m s).length = m := by simp [rowU]
theorem rowU_get {v : Nat → Nat → Int} {m s i : Nat} (h : i < m) : (rowU v m s)[i]? = some (.int (v i s)) := by
  unfold rowU
  rw [List.getElem?_map, List.getElem?_range h]; rfl
theorem tb_row {v : Nat → Nat → Int} {n m s : Nat} {j : Int} (hs : s < n) (hj : j = (s : Int)) (G : Gp) : gIdx (tbU v n m) (.int j) G = .ok (.tup (rowU v m s)) G := by
  refine gIdx_tup (atI_pos (by omega) ?_)
  rw [show j.toNat = s by omega, List.getElem?_map, List.getElem?_range hs]; rfl
theorem row_at {v : Nat → Nat → Int} {m s i : Nat} {j : Int} (hi : i < m) (hj : j = (i : Int)) (G : Gp) : gIdx (.tup (rowU v m s)) (.int j) G = .ok (.int (v i s)) G := by
  refine gIdx_tup (atI_pos (by omega) ?_)
  rw [show j.toNat = i by omega]
  exact rowU_get hi
theorem ps_at {ps : List Int} {s : Nat} {j : Int} (hs : s < ps.length) (hj : j = (s : Int)) (G : Gp) : gIdx (.tup (ps.map .int)) (.int j) G = .ok (.int (tOf ps s)) G := by
  refine gIdx_tup (atI_pos (by omega) ?_)
  rw [show j.toNat = s by omega]
  exact tOf_get hs
theorem psr_at {ps : List Int} {lp s : Nat} {j : Int} {G : Gp} (hp : G[lp]? = some (.lst (ps.map .int))) (hs : s < ps.length) (hj : j = (s : Int)) : gIdx (.ref lp) (.int j) G = .ok (.int (tOf ps s)) G := by
  refine gIdx_ref hp (atI_pos (by omega) ?_)
  rw [show j.toNat = s by omega]
  exact tOf_get hs
/-- the conditions at one place -/
def cnd (t : Nat → Int) (v : Nat → Nat → Int) (s i : Nat) : Prop := (0 < i → v (i - 1) s + t s ≤ v i s) ∧ (0 < s → v i (s - 1) + t (s - 1) ≤ v i s)
def Hold (t : Nat → Int) (n m : Nat) (v : Nat → Nat → Int) : Prop := (∀ s, s < n → ∀ i, i < m → 0 ≤ v i s) ∧ ∀ s, s < n → ∀ i, i < m → cnd t v s i
def nnv (v : Nat → Nat → Int) (n m : Nat) : Prop := ∀ s, s < n → ∀ i, i < m → 0 ≤ v i s
theorem is_table_spec {ps : List Int} {v : Nat → Nat → Int} {m : Nat} {mi : Int} (ok : OkT ps) (hm : m ≤ 20) (hmi : mi = (m : Int)) (G : Gp) : ∃ b G', F_is_table [.tup (ps.map .int), .int mi, tbU v ps.length m] G = .ok (.bl b) G' ∧ Ex0 G G' ∧ (b = true ↔ nnv v ps.length m) := by
  rw [run_is_table]
  have hl := ok.2.1
  obtain ⟨n, hn⟩ : ∃ n, n = ps.length := ⟨_, rfl⟩
  rw [← hn] at hl ⊢
  obtain ⟨ni, hni⟩ : ∃ ni : Int, ni = (n : Int) := ⟨_, rfl⟩
  have bl0 : ∀ G', bLen [.tup (ps.map .int)] G' = .ok (.int ni) G' := fun G' => by rw [bLen_tup, List.length_map, hni, hn]
  have bl2 : ∀ G', bLen [tbU v n m] G' = .ok (.int ni) G' := fun G' => by unfold tbU; rw [bLen_tup, List.length_map, List.length_range, hni]
  have it : ∀ G', isRes tbTup (tbU v n m) G' = .ok (.bl true) G' := fun G' => rfl
  let E (a : Option U) : Ev := [some (.tup (ps.map .int)), some (.int mi), some (tbU v n m), a, none]
  have L := for_all_tup (f := eVar 2) (gf := gNm 3) (body := g_is_table_1) (env := E none) (G := G) (G1 := G) (xs := (List.range n).map fun s => U.tup (rowU v m s)) (fun _ e G' => (∃ a, e = E a) ∧ Ex0 G G') (fun s => ∀ i, i < m → 0 ≤ v i s) (fun G' => Ex0 G G') (by simp [E, tbU]) ⟨⟨none, rfl⟩, Ex0.refl _⟩ (fun s hs e G1 hI => by
    obtain ⟨⟨a, he⟩, x1⟩ := hI
    subst he
    have hs' : s < n := by simpa using hs
    rw [List.getElem_map, List.getElem_range]
    have blr : ∀ G', bLen [.tup (rowU v m s)] G' = .ok (.int mi) G' := fun G' => by rw [bLen_tup, rowU_len, hmi]
    have itr : ∀ G', isRes tbTup (.tup (rowU v m s)) G' = .ok (.bl true) G' := fun G' => rfl
    obtain ⟨G2, e2, x2, at2⟩ := comp_pure (own := [4]) (fi := iOf (eVar 3) kSeq) (G := G1) (G1 := G1) (gf := gNm 4) (ft := tYesB) (fe := eAnd (eCall F_is_integer (aCons (eVar 4) aNil)) (eBin gGe (eVar 4) (eC (.int 0)))) (env := E (some (.tup (rowU v m s)))) (ys := List.range m) (g := fun i => U.int (v i s)) (fun _ => true) (fun i => .bl (decide (0 ≤ v i s))) (iOf_ok (u := .tup (rowU v m s)) (by simp [E]) rfl) (srcx_tup (G := G1)).2 (by simp; omega) (fun i hi G' x => by
      refine ⟨_, rfl, rfl, fun _ => ?_⟩
      have ii := is_integer_spec (noRef_int (v (List.range m)[i] s)) G'
      have ii2 : isI (.int (v (List.range m)[i] s)) = true := rfl
      rw [ii2] at ii
      generalize v (List.range m)[i] s = z at ii ⊢
      simp [E, wipeE, ii])
    have e3 : (List.range m).filter (fun _ => true) = List.range m := List.filter_eq_self.mpr fun _ _ => rfl
    rw [e3] at at2
    have ba : bAll [.ref G1.length] G2 = .ok (.bl (((List.range m).map fun i => decide (0 ≤ v i s)).all id)) G2 := bBools_ref (by rw [at2, List.map_map]; rfl)
    obtain ⟨b, hb⟩ : ∃ b : Bool, b = ((List.range m).map fun i => decide (0 ≤ v i s)).all id := ⟨_, rfl⟩
    rw [← hb] at ba
    have hb2 : b = true ↔ ∀ i, i < m → 0 ≤ v i s := by
      rw [hb]; simp
    have fine : (gNm 3 (.tup (rowU v m s)) (E a) G1).andThen (E a) (fun env1 G1 => g_is_table_1 env1 G1) = if b = true then .nx (E (some (.tup (rowU v m s)))) G2 else .ret (.bl false) G2 := by
      rw [gNm_, r_then_ok]
      show g_is_table_1 (E (some (.tup (rowU v m s)))) G1 = _
      unfold g_is_table_1
      rw [seq_nx (e' := E (some (.tup (rowU v m s)))) (G' := G1) (by simp [E, itr, blr])]
      have e4 : (eCall bAll (aCons (eComp [4] (iOf (eVar 3) kSeq) (gNm 4) tYesB (eAnd (eCall F_is_integer (aCons (eVar 4) aNil)) (eBin gGe (eVar 4) (eC (.int 0))))) aNil)) (E (some (.tup (rowU v m s)))) G1 = .ok (.bl b) G2 := by
        rw [eCall_, aCons_, e2]
        simp only [r_bind_ok, aNil_, ba]
      rw [sIf_, tNotB_, bVal_, e4]
      cases b <;> rfl
    rw [fine]
    by_cases c : b = true
    · rw [if_pos c]
      exact Or.inl ⟨hb2.mp c, _, _, rfl, ⟨_, rfl⟩, x1.trans x2⟩
    · rw [if_neg c]
      exact Or.inr ⟨fun z => c (hb2.mpr z), _, rfl, x1.trans x2⟩)
  have hlen : ((List.range n).map fun s => U.tup (rowU v m s)).length = n := by simp
  rw [hlen] at L
  have s1 : sIf (tOrB (tNotB (bVal (eIs tbTup (eVar 2)))) (bVal (eBin gNe (eCall bLen (aCons (eVar 2) aNil)) (eCall bLen (aCons (eVar 0) aNil))))) (sRet (eC (.bl false))) sNil (E none) G = .nx (E none) G := by
    simp [E, it, bl0, bl2]
  rcases L with ⟨hq, e', G', e1, ⟨a, he⟩, x1⟩ | ⟨hq, G', e1, x1⟩
  · refine ⟨true, G', ?_, x1, ⟨fun _ => hq, fun _ => rfl⟩⟩
    unfold g_is_table
    rw [seq_nx s1, seq_nx e1]
    rfl
  · refine ⟨false, G', ?_, x1, ⟨fun z => (nomatch z), fun z => absurd z hq⟩⟩
    unfold g_is_table
    rw [seq_nx s1, sSeq_, e1]
    rfl
theorem checked_ok {u : U} {ps : List Int} {G : Gp} (hu : isSeq u (ps.map .int) G) (h : OkT ps) {m : Int} (h1 : 1 ≤ m) (h2 : m ≤ 20) : F_checked_times [u, .int m] G = .ok (.tup (ps.map .int)) G := by
  rw [run_checked_times]
  have c := check_number_ok (lo := 1) (up := 20) (noRef_int m) G (by simp [inR, h1, h2])
  have r := checked_row_ok (m := 6) (lo := 1) (up := 20) hu (by simpa using h.1) (by have := h.2.1; simp; omega) (fun x hx => by
    obtain ⟨p, hp, rfl⟩ := List.mem_map.mp hx
    have := h.2.2 p hp
    exact ⟨noRef_int _, by simp [inR, this.1, this.2]⟩)
  simp [g_checked_times, r, c]
theorem hold_spec {u : U} {ps : List Int} {v : Nat → Nat → Int} {m : Nat} {mi : Int} {G : Gp} (hu : isSeq u (ps.map .int) G) (ok : OkT ps) (m1 : 1 ≤ m) (hm : m ≤ 20) (hmi : mi = (m : Int)) : ∃ b G', F_begins_hold [u, .int mi, tbU v ps.length m] G = .ok (.bl b) G' ∧ Ex0 G G' ∧ (b = true ↔ Hold (tOf ps) ps.length m v) := by
  rw [run_begins_hold]
  have ck := checked_ok hu ok (m := mi) (by omega) (by omega)
  obtain ⟨b0, G1, e1, x1, hb0⟩ := is_table_spec (v := v) ok hm hmi G
  obtain ⟨n, hn⟩ : ∃ n, n = ps.length := ⟨_, rfl⟩
  rw [← hn] at e1 hb0 ⊢
  obtain ⟨tv, htv⟩ : ∃ tv, tv = tbU v n m := ⟨_, rfl⟩
  rw [← htv] at e1 ⊢
  let E (a b c d : Option U) : Ev := [some u, some (.int mi), some tv, some (.tup (ps.map .int)), a, b, c, d]
  have s0 : sAsg (eCall F_checked_times (aCons (eVar 0) (aCons (eVar 1) aNil))) (gNm 3) [some u, some (.int mi), some tv, none, none, none, none, none] G = .nx (E none none none none) G := by simp [ck, E]
  have s1 : sIf (tNotB (bVal (eCall F_is_table (aCons (eVar 3) (aCons (eVar 1) (aCons (eVar 2) aNil)))))) (sRet (eC (.bl false))) sNil (E none none none none) G = if b0 = true then .nx (E none none none none) G1 else .ret (.bl false) G1 := by
    have : (eCall F_is_table (aCons (eVar 3) (aCons (eVar 1) (aCons (eVar 2) aNil)))) (E none none none none) G = .ok (.bl b0) G1 := by simp [E, e1]
    rw [sIf_, tNotB_, bVal_, this]
    cases b0 <;> rfl
  by_cases c0 : b0 = true
  · rw [if_pos c0] at s1
    have hnn := hb0.mp c0
    have L := for_all (fi := iOfs (aCons (eVar 3) aNil) kEnum) (gf := FL.gTup (FL.gCons (gNm 4) (FL.gCons (gNm 5) FL.gNil)) 2) (body := g_begins_hold_2) (env := E none none none none) (G := G1) (G1 := G1) (src := .items ((ps.map U.int).mapIdx fun i x => U.tup [.int (i : Nat), x])) (xs := (ps.map U.int).mapIdx fun i x => U.tup [.int (i : Nat), x])
      (fun _ e G' => G' = G1 ∧ ∃ a b c d, e = E a b c d) (fun s => ∀ i, i < m → cnd (tOf ps) v s i) (fun G' => G' = G1) (iOfs_ok (us := [.tup (ps.map .int)]) (by simp [E]) rfl) gives_items ⟨rfl, none, none, none, none, rfl⟩ (fun s hs e G' hI => by
      obtain ⟨hG, a, b, c, d, he⟩ := hI
      subst hG
      subst he
      have hs' : s < n := by rw [hn]; simpa using hs
      have hget : ((ps.map U.int).mapIdx fun i x => U.tup [.int (i : Nat), x])[s] = .tup [.int (s : Nat), .int (tOf ps s)] := by
        rw [List.getElem_mapIdx, List.getElem_map, tOf_lt (by omega)]
      rw [hget]
      have r0 := tb_row (v := v) (m := m) hs' rfl G'
      rw [← htv] at r0
      obtain ⟨si, hsi⟩ : ∃ si : Int, si = (s : Int) := ⟨_, rfl⟩
      have fine : (FL.gTup (FL.gCons (gNm 4) (FL.gCons (gNm 5) FL.gNil)) 2 (.tup [.int (s : Nat), .int (tOf ps s)]) (E a b c d) G').andThen (E a b c d) (fun env1 G1 => g_begins_hold_2 env1 G1) = g_begins_hold_2 (E (some (.int si)) (some (.int (tOf ps s))) c d) G' := by
        rw [← hsi]
        simp [E]
      rw [fine]
      rw [← hsi] at r0
      have L2 := for_all_rng (fa := aCons (eVar 1) aNil) (gf := gNm 6) (body := g_begins_hold_1) (env := E (some (.int si)) (some (.int (tOf ps s))) c d) (G := G') (G1 := G') (j := mi) (n := m) (fun _ e G2 => G2 = G' ∧ ∃ c d, e = E (some (.int si)) (some (.int (tOf ps s))) c d) (fun i => cnd (tOf ps) v s i) (fun G2 => G2 = G') (by simp [E]) hmi (by omega) ⟨rfl, c, d, rfl⟩ (fun i hi e G2 hI => by
        obtain ⟨hG, c, d, he⟩ := hI
        subst hG
        subst he
        obtain ⟨ii, hii⟩ : ∃ ii : Int, ii = (i : Int) := ⟨_, rfl⟩
        have a0 := row_at (v := v) (m := m) (s := s) hi hii G2
        rw [← hii]
        have fine2 : (gNm 6 (.int ii) (E (some (.int si)) (some (.int (tOf ps s))) c d) G2).andThen (E (some (.int si)) (some (.int (tOf ps s))) c d) (fun env1 G1 => g_begins_hold_1 env1 G1) = g_begins_hold_1 (E (some (.int si)) (some (.int (tOf ps s))) (some (.int ii)) d) G2 := by
          rw [gNm_, r_then_ok]; rfl
        rw [fine2]
        let E' : Ev := E (some (.int si)) (some (.int (tOf ps s))) (some (.int ii)) (some (.int (v i s)))
        have q1 : sAsg (eBin gIdx (eBin gIdx (eVar 2) (eVar 4)) (eVar 6)) (gNm 7) (E (some (.int si)) (some (.int (tOf ps s))) (some (.int ii)) d) G2 = .nx E' G2 := by simp [E, E', r0, a0]
        have q2 : sIf (tAndB (bVal (eBin gGt (eVar 6) (eC (.int 0)))) (bVal (eBin gLt (eVar 7) (eBin gAdd (eBin gIdx (eBin gIdx (eVar 2) (eVar 4)) (eBin gSub (eVar 6) (eC (.int 1)))) (eVar 5))))) (sRet (eC (.bl false))) sNil E' G2 = if 0 < i ∧ v i s < v (i - 1) s + tOf ps s then .ret (.bl false) G2 else .nx E' G2 := by
          by_cases c1 : 0 < ii
          · have a1 := row_at (v := v) (m := m) (s := s) (i := i - 1) (j := ii - 1) (by omega) (by omega) G2
            generalize v (i - 1) s = z at a1 ⊢
            by_cases c2 : v i s < z + tOf ps s
            · rw [if_pos ⟨by omega, c2⟩]
              simp [E', E, c1, r0, a1, c2]
            · rw [if_neg fun z => c2 z.2]
              simp [E', E, c1, r0, a1, c2]
          · rw [if_neg fun z => c1 (by omega)]
            simp [E', E, c1]
        have q3 : sIf (tAndB (bVal (eBin gGt (eVar 4) (eC (.int 0)))) (bVal (eBin gLt (eVar 7) (eBin gAdd (eBin gIdx (eBin gIdx (eVar 2) (eBin gSub (eVar 4) (eC (.int 1)))) (eVar 6)) (eBin gIdx (eVar 3) (eBin gSub (eVar 4) (eC (.int 1)))))))) (sRet (eC (.bl false))) sNil E' G2 = if 0 < s ∧ v i s < v i (s - 1) + tOf ps (s - 1) then .ret (.bl false) G2 else .nx E' G2 := by
          by_cases c1 : 0 < si
          · have r1 := tb_row (v := v) (m := m) (n := n) (s := s - 1) (j := si - 1) (by omega) (by omega) G2
            rw [← htv] at r1
            have a1 := row_at (v := v) (m := m) (s := s - 1) (i := i) (j := ii) hi hii G2
            have p1 := ps_at (ps := ps) (s := s - 1) (j := si - 1) (by omega) (by omega) G2
            generalize v i (s - 1) = z at a1 ⊢
            by_cases c2 : v i s < z + tOf ps (s - 1)
            · rw [if_pos ⟨by omega, c2⟩]
              simp [E', E, c1, r1, a1, p1, c2]
            · rw [if_neg fun z => c2 z.2]
              simp [E', E, c1, r1, a1, p1, c2]
          · rw [if_neg fun z => c1 (by omega)]
            simp [E', E, c1]
        unfold g_begins_hold_1
        rw [seq_nx q1, sSeq_, q2]
        by_cases c1 : 0 < i ∧ v i s < v (i - 1) s + tOf ps s
        · rw [if_pos c1]
          exact Or.inr ⟨fun z => by have := z.1 c1.1; omega, G2, rfl, rfl⟩
        · rw [if_neg c1]
          simp only [q3]
          by_cases c2 : 0 < s ∧ v i s < v i (s - 1) + tOf ps (s - 1)
          · rw [if_pos c2]
            exact Or.inr ⟨fun z => by have := z.2 c2.1; omega, G2, rfl, rfl⟩
          · rw [if_neg c2]
            exact Or.inl ⟨⟨fun z => by omega, fun z => by omega⟩, _, G2, rfl, rfl, _, _, rfl⟩)
      unfold g_begins_hold_2
      rcases L2 with ⟨h1, e', G2, h2, hG, c', d', he⟩ | ⟨h1, G2, h2, hG⟩
      · exact Or.inl ⟨h1, e', G2, h2, hG, _, _, _, _, he⟩
      · exact Or.inr ⟨h1, G2, h2, hG⟩)
    have hlen : ((ps.map U.int).mapIdx fun i x => U.tup [.int (i : Nat), x]).length = n := by simp [hn]
    rw [hlen] at L
    rcases L with ⟨h1, e', G2, h2, hG, a, b, c, d, he⟩ | ⟨h1, G2, h2, hG⟩
    · refine ⟨true, G2, ?_, hG ▸ x1, ⟨fun _ => ⟨hnn, h1⟩, fun _ => rfl⟩⟩
      unfold g_begins_hold
      rw [seq_nx s0, seq_nx s1, seq_nx h2]
      rfl
    · refine ⟨false, G2, ?_, hG ▸ x1, ⟨fun z => (nomatch z), fun z => absurd z.2 h1⟩⟩
      unfold g_begins_hold
      rw [seq_nx s0, seq_nx s1, sSeq_, h2]
      rfl
  · rw [if_neg c0] at s1
    refine ⟨false, G1, ?_, x1, ⟨fun z => (nomatch z), fun z => absurd (hb0.mpr z.1) c0⟩⟩
    unfold g_begins_hold
    rw [seq_nx s0, sSeq_, s1]
    rfl
end K09

set_option Elab.async false
set_option linter.all false
set_option maxRecDepth 100000
set_option maxHeartbeats 4000000
set_option autoImplicit false
namespace K09
open PySem PySem.Spec L2 FL

/-! ### same -/
def PDn : Nat → U → Prop
  | _, .non => True
  | _, .bl _ => True
  | _, .int _ => True
  | _, .str _ => True
  | d + 1, .tup xs => xs.length ≤ 1000 ∧ ∀ x ∈ xs, PDn d x
  | _, _ => False
theorem isT_tup (xs : List U) (G : Gp) : isRes tbTup (.tup xs) G = .ok (.bl true) G := rfl
theorem isT_non (G : Gp) : isRes tbTup .non G = .ok (.bl false) G := rfl
theorem isT_bl (b : Bool) (G : Gp) : isRes tbTup (.bl b) G = .ok (.bl false) G := rfl
theorem isT_int (b : Int) (G : Gp) : isRes tbTup (.int b) G = .ok (.bl false) G := rfl
theorem isT_str (b : Str) (G : Gp) : isRes tbTup (.str b) G = .ok (.bl false) G := rfl
theorem isB_bl (b : Bool) (G : Gp) : isRes tbBool (.bl b) G = .ok (.bl true) G := rfl
theorem isB_int (b : Int) (G : Gp) : isRes tbBool (.int b) G = .ok (.bl false) G := rfl
theorem isB_str (b : Str) (G : Gp) : isRes tbBool (.str b) G = .ok (.bl false) G := rfl
theorem isI_int (b : Int) (G : Gp) : isRes tbInt (.int b) G = .ok (.bl true) G := rfl
theorem isI_str (b : Str) (G : Gp) : isRes tbInt (.str b) G = .ok (.bl false) G := rfl
theorem isS_str (b : Str) (G : Gp) : isRes tbStr (.str b) G = .ok (.bl true) G := rfl
theorem same_spec : ∀ (d : Nat) (x : U) (G : Gp), PDn d x → F__law_same (d + 1) [x, x] G = .ok (.bl true) G := by
  intro d
  induction d with
  | zero =>
    intro x G h
    rw [run__law_same]
    cases x with
    | non => simp [g__law_same, isT_non]
    | bl b => simp [g__law_same, g__law_same_3, isT_bl, isB_bl]
    | int b => simp [g__law_same, g__law_same_4, isT_int, isB_int, isI_int]
    | str b => simp [g__law_same, isT_str, isB_str, isI_str, isS_str]
    | _ => exact h.elim
  | succ d ih =>
    intro x G h
    rw [run__law_same]
    cases x with
    | non => simp [g__law_same, isT_non]
    | bl b => simp [g__law_same, g__law_same_3, isT_bl, isB_bl]
    | int b => simp [g__law_same, g__law_same_4, isT_int, isB_int, isI_int]
    | str b => simp [g__law_same, isT_str, isB_str, isI_str, isS_str]
    | tup xs =>
      obtain ⟨hl, hx⟩ := h
      obtain ⟨ni, hni⟩ : ∃ ni : Int, ni = (xs.length : Int) := ⟨_, rfl⟩
      have bl : bLen [.tup xs] G = .ok (.int ni) G := by rw [bLen_tup, hni]
      have L : sFor (iOfs (aCons (eCall bLen (aCons (eVar 1) aNil)) aNil) kRng1) (gNm 2) (g__law_same_1 (F__law_same (d + 1))) [some (.tup xs), some (.tup xs), none] G = .nx [some (.tup xs), some (.tup xs), if xs = [] then none else some (.int ((xs.length - 1 : Nat) : Int))] G ∨ ∃ k, sFor (iOfs (aCons (eCall bLen (aCons (eVar 1) aNil)) aNil) kRng1) (gNm 2) (g__law_same_1 (F__law_same (d + 1))) [some (.tup xs), some (.tup xs), none] G = .nx [some (.tup xs), some (.tup xs), k] G := by
        have hf0 : aCons (eCall bLen (aCons (eVar 1) aNil)) aNil [some (.tup xs), some (.tup xs), none] G = .ok [.int ni] G := by simp only [aCons_, eCall_, eVar_, aNil_, List.getElem?_cons_succ, List.getElem?_cons_zero, r_bind_ok, bl]
        refine Or.inr (sFor_rng1 (j := ni) (G1 := G) (fun i ev G' => G' = G ∧ ∃ k, ev = [some (.tup xs), some (.tup xs), k]) (fun r => ∃ k, r = .nx [some (.tup xs), some (.tup xs), k] G) hf0 (by omega) (by omega) ⟨rfl, none, rfl⟩ ?_ ?_)
        · rintro i hi ev G' ⟨rfl, k, rfl⟩
          have hi' : i < xs.length := by omega
          obtain ⟨ii, hii⟩ : ∃ ii : Int, ii = (i : Int) := ⟨_, rfl⟩
          have gi : ∀ G', gIdx (.tup xs) (.int ii) G' = .ok xs[i] G' := fun G' => gIdx_tup (atI_pos (by omega) (by rw [hii, Int.toNat_natCast]; exact List.getElem?_eq_getElem hi'))
          have r := ih xs[i] G' (hx _ (List.getElem_mem hi'))
          rw [← hii]
          have fine : (gNm 2 (.int ii) [some (.tup xs), some (.tup xs), k] G').andThen [some (.tup xs), some (.tup xs), k] (fun env1 G1 => g__law_same_1 (F__law_same (d + 1)) env1 G1) = .nx [some (.tup xs), some (.tup xs), some (.int ii)] G' := by
            simp [g__law_same_1, gi, r]
          rw [fine]
          exact ⟨rfl, _, rfl⟩
        · rintro ev G' ⟨rfl, k, rfl⟩
          exact ⟨k, rfl⟩
      have L : ∃ k, sFor (iOfs (aCons (eCall bLen (aCons (eVar 1) aNil)) aNil) kRng1) (gNm 2) (g__law_same_1 (F__law_same (d + 1))) [some (.tup xs), some (.tup xs), none] G = .nx [some (.tup xs), some (.tup xs), k] G := by
        rcases L with L | L
        · exact ⟨_, L⟩
        · exact L
      obtain ⟨k, L⟩ := L
      have e2 : g__law_same_2 (F__law_same (d + 1)) [some (.tup xs), some (.tup xs), none] G = .ret (.bl true) G := by
        unfold g__law_same_2
        rw [seq_nx (e' := [some (.tup xs), some (.tup xs), none]) (G' := G) (by simp [isT_tup]), seq_nx L]
        simp
      unfold g__law_same
      generalize g__law_same_2 (F__law_same (d + 1)) = g2 at e2 ⊢
      simp [isT_tup, e2]
    | _ => exact h.elim

theorem pdn_told {x : U} (h : PDn 38 x) (z : Str) : PDn 39 (.tup [.str z, x]) := ⟨by simp, fun y hy => by
  simp only [List.mem_cons, List.not_mem_nil, or_false] at hy
  rcases hy with rfl | rfl
  · trivial
  · exact h⟩
theorem pdn_mono : ∀ (d : Nat) (x : U), PDn d x → PDn (d + 1) x := by
  intro d
  induction d with
  | zero => intro x h; cases x <;> first | trivial | exact h.elim
  | succ d ih =>
    intro x h
    cases x with
    | tup xs => exact ⟨h.1, fun y hy => ih y (h.2 y hy)⟩
    | non => trivial
    | bl _ => trivial
    | int _ => trivial
    | str _ => trivial
    | _ => exact h.elim
theorem pdn_up {d : Nat} {x : U} (h : PDn d x) : ∀ k, PDn (d + k) x
  | 0 => h
  | k + 1 => pdn_mono _ _ (pdn_up h k)
theorem pdn_tab {t : Nat → Int} {n r m : Nat} (hn : n ≤ 1000) (hm : m ≤ 1000) : PDn 38 (tabU t n r m) := by
  refine ⟨by simp; exact hn, fun x hx => ?_⟩
  obtain ⟨s, _, rfl⟩ := List.mem_map.mp hx
  refine ⟨by rw [List.length_map, Bs_len]; exact hm, fun y hy => ?_⟩
  obtain ⟨i, _, rfl⟩ := List.mem_map.mp hy
  trivial
/-! ### what the functions give -/
/-- the last end -/
def eN (ps : List Int) (r m : Nat) : Int := B (tOf ps) ps.length r (m - 1) (ps.length - 1) + tOf ps (ps.length - 1)
def tB (ps : List Int) (r m : Nat) : U := tabU (tOf ps) ps.length r m
structure Qs (ps : List Int) (mi ri : Int) (m r : Nat) : Prop where
  ok : OkT ps
  m1 : 1 ≤ m
  m2 : m ≤ 20
  hm : mi = (m : Int)
  r1 : 1 ≤ r
  r2 : r ≤ 20
  hr : ri = (r : Int)
section
variable {ps : List Int} {mi ri : Int} {m r : Nat} {u : U} {G : Gp}
theorem late_ok (q : Qs ps mi ri m r) (hu : isSeq u (ps.map .int) G) : ∃ G', F_least_late [u, .int mi, .int ri] G = .ok (tB ps r m) G' ∧ Ex0 G G' := by
  obtain ⟨G', e, x⟩ := within_spec (mn := m) (rn := r) q.ok q.r1 q.m2 G
  rw [← q.hm, ← q.hr] at e
  refine ⟨G', ?_, x⟩
  have c := checked_ok hu q.ok (m := mi) (by have := q.m1; have := q.hm; omega) (by have := q.m2; have := q.hm; omega)
  have c2 := check_number_ok (lo := 1) (up := 20) (noRef_int ri) G (by have := q.r1; have := q.r2; have := q.hr; simp [inR]; omega)
  rw [run_least_late]
  simp [g_least_late, c, c2, e]
  rfl
theorem ticks_ok (q : Qs ps mi ri m r) (hu : isSeq u (ps.map .int) G) : ∃ G', F_late_ticks [u, .int mi, .int ri] G = .ok (.int (eN ps r m)) G' ∧ Ex0 G G' := by
  obtain ⟨G', e, x⟩ := within_spec (mn := m) (rn := r) q.ok q.r1 q.m2 G
  rw [← q.hm, ← q.hr, tabU_eq] at e
  refine ⟨G', ?_, x⟩
  have hn := q.ok.1
  have c := checked_ok hu q.ok (m := mi) (by have := q.m1; have := q.hm; omega) (by have := q.m2; have := q.hm; omega)
  have c2 := check_number_ok (lo := 1) (up := 20) (noRef_int ri) G (by have := q.r1; have := q.r2; have := q.hr; simp [inR]; omega)
  have i1 : gIdx (tbU (B (tOf ps) ps.length r) ps.length m) (.int (-1)) G' = .ok (.tup (rowU (B (tOf ps) ps.length r) m (ps.length - 1))) G' := gIdx_tup (atI_last (by
    rw [List.getLast?_eq_getElem?, List.length_map, List.length_range, List.getElem?_map, List.getElem?_range (by omega)]; rfl))
  have i2 : gIdx (.tup (rowU (B (tOf ps) ps.length r) m (ps.length - 1))) (.int (-1)) G' = .ok (.int (B (tOf ps) ps.length r (m - 1) (ps.length - 1))) G' := gIdx_tup (atI_last (by
    rw [List.getLast?_eq_getElem?, rowU_len]; exact rowU_get (by have := q.m1; omega)))
  have i3 : gIdx (.tup (ps.map .int)) (.int (-1)) G' = .ok (.int (tOf ps (ps.length - 1))) G' := gIdx_tup (atI_last (by
    rw [List.getLast?_eq_getElem?, List.length_map]; exact tOf_get (by omega)))
  have e2 : F_end_of [.tup (ps.map .int), tbU (B (tOf ps) ps.length r) ps.length m] G' = .ok (.int (eN ps r m)) G' := by
    rw [run_end_of]
    simp [g_end_of, i1, i2, i3, eN]
  rw [run_late_ticks]
  simp [g_late_ticks, c, c2, e, e2]
theorem begins_ok (q : Qs ps mi ri m r) (hu : isSeq u (ps.map .int) G) : ∃ G', F_begins [u, .int mi] G = .ok (tB ps m m) G' ∧ Ex0 G G' := by
  obtain ⟨G', e, x⟩ := within_spec (mn := m) (rn := m) q.ok q.m1 q.m2 G
  rw [← q.hm] at e
  refine ⟨G', ?_, x⟩
  have c := checked_ok hu q.ok (m := mi) (by have := q.m1; have := q.hm; omega) (by have := q.m2; have := q.hm; omega)
  rw [run_begins]
  simp [g_begins, c, e]
  rfl
theorem okt_ne {ps : List Int} (h : OkT ps) : ps ≠ [] := fun e => by have := h.1; rw [e] at this; simp at this
theorem pre_sum : ∀ (ps : List Int) (k : Nat), k ≤ ps.length → pre (tOf ps) k = (ps.take k).sum
  | ps, 0, _ => by simp [pre]
  | ps, k + 1, h => by
    have hk : k < ps.length := h
    rw [List.take_succ_eq_append_getElem hk, List.sum_append]
    unfold pre
    rw [pre_sum ps k (by omega), tOf_lt hk]
    simp
theorem eN_sum (q : Qs ps mi ri m r) (h : ps.length ≤ r ∨ m ≤ r) : eN ps r m = ps.sum + (mi - 1) * maxL ps := by
  have hn := q.ok.1
  obtain ⟨m1, m2⟩ := maxL_spec (okt_ne q.ok)
  obtain ⟨j, hj, ej⟩ := List.getElem_of_mem m1
  have hM : ∀ s, s < ps.length → tOf ps s ≤ maxL ps := fun s hs => by rw [tOf_lt hs]; exact m2 _ (List.getElem_mem hs)
  have hM0 : 0 ≤ maxL ps := by have := tOf_pos q.ok 0 hn; have := hM 0 hn; omega
  have := B_end (t := tOf ps) (n := ps.length) (r := r) (m := m) (q := j) hn q.m1 hM hM0 hj (by rw [tOf_lt hj, ej]) h
  unfold eN
  rw [this, pre_sum ps ps.length (Nat.le_refl _), List.take_length, q.hm]
theorem pipe_ok (q : Qs ps mi ri m r) (hu : isSeq u (ps.map .int) G) : F_pipe_ticks [u, .int mi] G = .ok (.int (ps.sum + (mi - 1) * maxL ps)) G := by
  have c := checked_ok hu q.ok (m := mi) (by have := q.m1; have := q.hm; omega) (by have := q.m2; have := q.hm; omega)
  have bs : bSum [.tup (ps.map .int)] G = .ok (.int ps.sum) G := bInts_seq rfl (fun h => nomatch h.1)
  have bm : bMax [.tup (ps.map .int)] G = .ok (.int (maxL ps)) G := bInts_seq rfl (fun h => (okt_ne q.ok) h.2)
  have mu : ∀ G', gMul (.int (mi - 1)) (.int (maxL ps)) G' = .ok (.int ((mi - 1) * maxL ps)) G' := fun G' => gMul_ii (mulOk_small (by have := q.m2; have := q.hm; omega))
  rw [run_pipe_ticks]
  simp [g_pipe_ticks, c, bs, bm, mu]
theorem ct_row {u v : U} {k : Int} {G : Gp} (h : F_checked_row [u, .int 6, .int 1, .int 20] G = .exc "InvalidRow" [("place", .int k)] G) : F_checked_times [u, v] G = .exc "InvalidRow" [("place", .int k)] G := by
  rw [run_checked_times]
  simp [g_checked_times, h]
end
end K09

set_option Elab.async false
set_option linter.all false
set_option maxRecDepth 100000
set_option maxHeartbeats 4000000
set_option autoImplicit false
namespace K09
open PySem PySem.Spec L2 FL

theorem isTop_unique {row : List Int} {s : Nat} {T T' : Int} (a : IsTop row s T) (b : IsTop row s T') : T = T' := by
  rcases Int.lt_trichotomy T T' with z | z | z
  · have := b.2.2 T a.1 z
    have := a.2.1
    omega
  · exact z
  · have := a.2.2 T' b.1 z
    have := b.2.1
    omega
/-! ### papers -/
/-- the shortest beginning with that sum -/
def Sh (T : Int) (l : List Int) (k : Nat) : Prop := k ≤ l.length ∧ T ≤ (l.take k).sum ∧ ∀ j, j < k → (l.take j).sum < T
theorem sh_ex : ∀ (l : List Int) (T : Int), T ≤ l.sum → ∃ k, Sh T l k
  | [], T, h => ⟨0, Nat.le_refl _, by simpa using h, fun j hj => absurd hj (Nat.not_lt_zero j)⟩
  | c :: r, T, h => by
    by_cases h0 : T ≤ 0
    · exact ⟨0, Nat.zero_le _, by simpa using h0, fun j hj => absurd hj (Nat.not_lt_zero j)⟩
    · rw [List.sum_cons] at h
      obtain ⟨k, k1, k2, k3⟩ := sh_ex r (T - c) (by omega)
      refine ⟨k + 1, by simp; exact k1, by rw [List.take_succ_cons, List.sum_cons]; omega, fun j hj => ?_⟩
      match j, hj with
      | 0, _ => simp; omega
      | j + 1, hj =>
        have := k3 j (by omega)
        rw [List.take_succ_cons, List.sum_cons]
        omega
theorem Sh.pos {T : Int} {l : List Int} {k : Nat} (h : Sh T l k) (hT : 1 ≤ T) : 1 ≤ k := by
  match k, h with
  | 0, h => have := h.2.1; simp at this; omega
  | k + 1, _ => omega
/-- s pairs, from b on -/
def Chn (T : Int) (row : List Int) : Nat → Nat → List (Nat × Nat) → Prop
  | 0, _, c => c = []
  | j + 1, b, c => ∃ k rest, c = (b, b + k) :: rest ∧ 1 ≤ k ∧ Sh T (row.drop b) k ∧ Chn T row j (b + k - 1) rest
theorem no_cheap {row : List Int} {s : Nat} {T : Int} (hp : PosR row) (hn : row ≠ []) (hT : IsTop row s T) {ps : List (List Int)} (h1 : ps.flatten = row) (h2 : ps.length ≤ s) (h3 : Pts (T - 1) ps) : False := by
  have hm := (maxL_spec hn).1
  have hle : maxL row ≤ T - 1 := by
    rw [← h1] at hm hp
    obtain ⟨q, hq, hcq⟩ := List.mem_flatten.mp hm
    have := (mem_le_top (posR_flat hp q hq) (h3 q hq).2 _ hcq).2
    rw [h1] at this
    exact this
  have a := hT.2.2 (T - 1) hle (by omega)
  have b := need_le h3 (by rw [h1]; exact hp)
  rw [h1] at b
  omega
/-- what is ahead of b, in few cheap parts -/
def Chp (T : Int) (row : List Int) (j b : Nat) : Prop := ∃ ps : List (List Int), ps.flatten = row.take b ∧ ps.length ≤ j ∧ Pts (T - 1) ps
theorem chn_ex {row : List Int} {s : Nat} {T : Int} (hp : PosR row) (hn : row ≠ []) (hT : IsTop row s T) (hT1 : 1 ≤ T) : ∀ j b, j ≤ s → b ≤ row.length → Chp T row (s - j) b → ∃ c, Chn T row j b c
  | 0, b, _, _, _ => ⟨[], rfl⟩
  | j + 1, b, hj, hb, hc => by
    obtain ⟨ps, e1, e2, e3⟩ := hc
    have hsum : T ≤ (row.drop b).sum := by
      apply Int.le_of_not_gt
      intro z
      by_cases hbn : b = row.length
      · refine no_cheap hp hn hT (ps := ps) (by rw [e1, hbn, List.take_length]) (by omega) e3
      · refine no_cheap hp hn hT (ps := ps ++ [row.drop b]) (by rw [List.flatten_append, e1]; simp) (by simp; omega) (fun p hp' => ?_)
        rcases List.mem_append.mp hp' with h | h
        · exact e3 p h
        · rw [List.mem_singleton] at h
          rw [h]
          refine ⟨fun q => ?_, by omega⟩
          have := congrArg List.length q
          rw [List.length_drop] at this
          simp only [List.length_nil] at this
          omega
    obtain ⟨k, hk⟩ := sh_ex _ _ hsum
    have k1 := hk.pos hT1
    have kl := hk.1
    rw [List.length_drop] at kl
    have hlt := hk.2.2 (k - 1) (by omega)
    have htk : row.take (b + (k - 1)) = row.take b ++ (row.drop b).take (k - 1) := List.take_add
    obtain ⟨rest, hr⟩ := chn_ex hp hn hT hT1 j (b + k - 1) (by omega) (by omega) (by
      have e : b + k - 1 = b + (k - 1) := by omega
      rw [e]
      by_cases c : k = 1
      · refine ⟨ps, by rw [htk, e1, c]; simp, by omega, e3⟩
      · refine ⟨ps ++ [(row.drop b).take (k - 1)], by rw [htk, List.flatten_append, e1]; simp, by simp; omega, fun p hp' => ?_⟩
        rcases List.mem_append.mp hp' with h | h
        · exact e3 p h
        · rw [List.mem_singleton] at h
          rw [h]
          refine ⟨fun q => ?_, by omega⟩
          have := congrArg List.length q
          rw [List.length_take, List.length_drop] at this
          simp only [List.length_nil] at this
          omega)
    exact ⟨_, k, rest, rfl, k1, hk, hr⟩
theorem chn_top {row : List Int} {s : Nat} {T : Int} (hp : PosR row) (hn : row ≠ []) (hT : IsTop row s T) (hT1 : 1 ≤ T) : ∃ c, Chn T row s 0 c :=
  chn_ex hp hn hT hT1 s 0 (Nat.le_refl _) (Nat.zero_le _) ⟨[], by simp, by simp, fun p h => by simp at h⟩
end K09

set_option Elab.async false
set_option linter.all false
set_option maxRecDepth 100000
set_option maxHeartbeats 4000000
set_option autoImplicit false
namespace K09
open PySem PySem.Spec L2 FL

def prU (p : Nat × Nat) : U := .tup [.int (p.1 : Nat), .int (p.2 : Nat)]
theorem cutU_mid {α : Type} (xs : List α) {b e : Nat} {bi ei : Int} (hb : bi = (b : Int)) (he : ei = (e : Int)) (h1 : b ≤ e) (h2 : e ≤ xs.length) : cutU xs (some bi) (some ei) = (xs.drop b).take (e - b) := by
  subst hb
  subst he
  unfold cutU
  rw [HT.sIx_nat, HT.sIx_nat, Nat.min_eq_left (show b ≤ xs.length by omega), Nat.min_eq_left h2]
theorem sl_tup {ps : List Int} {lo hi : Option Int} (G : Gp) : gSl (.tup (ps.map .int)) lo hi G = .ok (.tup ((cutU ps lo hi).map .int)) G := by
  show R.ok (U.tup (cutU (ps.map U.int) lo hi)) G = _
  rw [cutU_map]
theorem sum_tup {ns : List Int} (G : Gp) : bSum [.tup (ns.map .int)] G = .ok (.int ns.sum) G := bInts_seq rfl (fun h => nomatch h.1)
/-- the end of the next row of neighbors -/
theorem shortest_spec {ps : List Int} {T : Int} {b k : Nat} (hn : ps.length ≤ 14) (hk : Sh T (ps.drop b) k) (G : Gp) : F_shortest_from [.tup (ps.map .int), .int (b : Nat), .int T] G = .ok (.int ((b + k : Nat) : Int)) G := by
  rw [run_shortest_from]
  have hl := hk.1
  rw [List.length_drop] at hl
  obtain ⟨bi, hbi⟩ : ∃ bi : Int, bi = (b : Int) := ⟨_, rfl⟩
  rw [← hbi]
  let E (x y : Int) : Ev := [some (.tup (ps.map .int)), some (.int bi), some (.int T), some (.int x), some (.int y)]
  have L : ∃ y, whileN (bVal (eBin gLt (eVar 4) (eVar 2))) g_shortest_from_1 bigN (E bi 0) G = .nx (E ((b + k : Nat) : Int) y) G := by
    refine while_post (I := fun ev G' => G' = G ∧ ∃ j, j ≤ k ∧ ev = E ((b + j : Nat) : Int) ((ps.drop b).take j).sum)
      (m := fun ev _ => match ev with
        | [_, _, _, some (.int x), _] => (((b + k : Nat) : Int) - x).toNat
        | _ => 0) (fun r => ∃ y, r = .nx (E ((b + k : Nat) : Int) y) G) ?_ bigN _ _ ⟨rfl, 0, Nat.zero_le _, by simp [E, hbi]⟩ ?_
    · rintro ev G' ⟨rfl, j, hj, rfl⟩
      by_cases c : j = k
      · subst c
        have h2 : ¬ ((ps.drop b).take j).sum < T := by have := hk.2.1; omega
        refine ⟨false, G', by simp [E, h2], fun h => (nomatch h), fun _ => ⟨_, rfl⟩⟩
      · have h2 : ((ps.drop b).take j).sum < T := hk.2.2 j (by omega)
        have hbj : b + j < ps.length := by omega
        obtain ⟨xi, hxi⟩ : ∃ xi : Int, xi = ((b + j : Nat) : Int) := ⟨_, rfl⟩
        have ix : gIdx (.tup (ps.map .int)) (.int xi) G' = .ok (.int (ps[b + j])) G' := gIdx_tup (atI_pos (by omega) (by rw [show xi.toNat = b + j by omega, List.getElem?_map, List.getElem?_eq_getElem hbj]; rfl))
        have hs : ((ps.drop b).take (j + 1)).sum = ((ps.drop b).take j).sum + ps[b + j] := by
          rw [List.take_succ_eq_append_getElem (by simp; omega), List.sum_append]
          simp
        refine ⟨true, G', by simp [E, h2], fun _ => ?_, fun h => nomatch h⟩
        generalize ps[b + j] = pz at ix hs
        rw [← hxi]
        have fine : g_shortest_from_1 (E xi ((ps.drop b).take j).sum) G' = .nx (E (xi + 1) ((ps.drop b).take (j + 1)).sum) G' := by
          rw [hs]
          simp [g_shortest_from_1, E, ix]
        rw [fine]
        refine ⟨⟨rfl, j + 1, by omega, by rw [hxi]; rfl⟩, ?_⟩
        show (((b + k : Nat) : Int) - (xi + 1)).toNat < (((b + k : Nat) : Int) - xi).toNat
        omega
    · show (((b + k : Nat) : Int) - bi).toNat < bigN
      unfold bigN
      omega
  obtain ⟨y, L⟩ := L
  unfold g_shortest_from
  rw [seq_nx (e' := [some (.tup (ps.map .int)), some (.int bi), some (.int T), some (.int bi), none]) (G' := G) (by simp), seq_nx (e' := E bi 0) (G' := G) (by simp [E]), seq_nx L]
  generalize ((b + k : Nat) : Int) = z
  simp [E]
theorem top_paper_ok {u : U} {ps : List Int} {s : Nat} {T : Int} {c : List (Nat × Nat)} {G : Gp} (hu : isSeq u (ps.map .int) G) (h : OkP ps) (h1 : 1 ≤ s) (h2 : s ≤ ps.length) (hT : IsTop ps s T) (hc : Chn T ps s 0 c) : ∃ G', F_top_paper [u, .int (s : Nat)] G = .ok (.tup (c.map prU)) G' ∧ Ex0 G G' := by
  rw [run_top_paper]
  have hn := h.2.1
  obtain ⟨T', e1, hT'⟩ := top_spec (s := s) h.pos h.ne h1 (by have := h.sum; omega) G
  rw [isTop_unique hT' hT] at e1
  have ck := cut_ok hu h (s := (s : Int)) (by omega) (by omega)
  obtain ⟨si, hsi⟩ : ∃ si : Int, si = (s : Int) := ⟨_, rfl⟩
  rw [← hsi] at e1 ck ⊢
  obtain ⟨lf, hlf⟩ : ∃ lf, lf = G.length := ⟨_, rfl⟩
  obtain ⟨G1, hG1⟩ : ∃ G1, G1 = G ++ [OU.lst []] := ⟨_, rfl⟩
  have x1 : Ex0 G G1 := by rw [hG1]; exact ex0_push _ _
  have a1 : G1[lf]? = some (.lst []) := by rw [hG1, hlf]; exact push_at _ _
  let E (b : Option U) (i e : Option U) : Ev := [some u, some (.int si), some (.tup (ps.map .int)), some (.int T), some (.ref lf), b, i, e]
  have L : ∃ b i e G2, sFor (iOfs (aCons (eVar 1) aNil) kRng1) (gNm 6) g_top_paper_1 (E (some (.int 0)) none none) G1 = .nx (E b i e) G2 ∧ Ex0 G G2 ∧ G2[lf]? = some (.lst (c.map prU)) := by
    refine sFor_rng1 (j := si) (G1 := G1) (fun j ev G' => ∃ (b : Nat) (i e : Option U) (done rest : List (Nat × Nat)), ev = E (some (.int (b : Nat))) i e ∧ Ex0 G G' ∧ G'[lf]? = some (.lst (done.map prU)) ∧ done.length = j ∧ c = done ++ rest ∧ Chn T ps (s - j) b rest) (fun r => ∃ b i e G2, r = .nx (E b i e) G2 ∧ Ex0 G G2 ∧ G2[lf]? = some (.lst (c.map prU))) (by simp [E]) (by omega) (by omega) ⟨0, _, _, [], c, rfl, x1, a1, rfl, rfl, hc⟩ ?_ ?_
    · intro j hj ev G' hI
      obtain ⟨b, i, e, done, rest, he, x, a, hd, hcr, hch⟩ := hI
      subst he
      obtain ⟨m, hm⟩ : ∃ m, s - j = m + 1 := ⟨s - j - 1, by omega⟩
      rw [hm] at hch
      obtain ⟨k, r2, hr, k1, hk, hch2⟩ := hch
      have hkl := hk.1
      rw [List.length_drop] at hkl
      have se := shortest_spec (b := b) hn hk G'
      obtain ⟨bi, hbi⟩ : ∃ bi : Int, bi = ((b : Nat) : Int) := ⟨_, rfl⟩
      obtain ⟨ei, hei⟩ : ∃ ei : Int, ei = ((b + k : Nat) : Int) := ⟨_, rfl⟩
      rw [← hbi, ← hei] at se
      rw [← hbi]
      have ap : mAppend (.ref lf) [.tup [.int bi, .int ei]] G' = .ok .non (G'.set lf (.lst ((done ++ [(b, b + k)]).map prU))) := by
        rw [mAppend_ref a (by rw [List.length_map]; omega), List.map_append, hbi, hei]; rfl
      have il := isLst_ref a
      generalize ((j : Nat) : Int) = ji
      have fine : (gNm 6 (.int ji) (E (some (.int bi)) i e) G').andThen (E (some (.int bi)) i e) (fun env1 G1 => g_top_paper_1 env1 G1) = .nx (E (some (.int (ei - 1))) (some (.int ji)) (some (.int ei))) (G'.set lf (.lst ((done ++ [(b, b + k)]).map prU))) := by
        simp [E, g_top_paper_1, se, eMeth_, il, ap]
      rw [fine]
      refine ⟨b + k - 1, _, _, done ++ [(b, b + k)], r2, by rw [show ((b + k - 1 : Nat) : Int) = ei - 1 by omega], ex0_set x (by omega) _, set_get a, by simp [hd], by rw [hcr, hr]; simp, by rw [show s - (j + 1) = m by omega]; exact hch2⟩
    · intro ev G' hI
      obtain ⟨b, i, e, done, rest, he, x, a, hd, hcr, hch⟩ := hI
      subst he
      rw [show s - si.toNat = 0 by omega] at hch
      have hr : rest = [] := hch
      rw [hr, List.append_nil] at hcr
      rw [← hcr] at a
      exact ⟨_, i, e, G', rfl, x, a⟩
  obtain ⟨b, i, e, G2, L, x2, a2⟩ := L
  have bt := bTuple_seq (seqU_of a2)
  refine ⟨G2, ?_, x2⟩
  unfold g_top_paper
  rw [seq_nx (e' := [some u, some (.int si), some (.tup (ps.map .int)), none, none, none, none, none]) (G' := G) (by simp [ck]), seq_nx (e' := [some u, some (.int si), some (.tup (ps.map .int)), some (.int T), none, none, none, none]) (G' := G) (by simp [e1]), seq_nx (e' := [some u, some (.int si), some (.tup (ps.map .int)), some (.int T), some (.ref lf), none, none, none]) (G' := G1) (by simp [hG1, hlf]), seq_nx (e' := E (some (.int 0)) none none) (G' := G1) (by simp [E]), seq_nx L]
  simp [E, bt]
end K09

set_option Elab.async false
set_option linter.all false
set_option maxRecDepth 100000
set_option maxHeartbeats 4000000
set_option autoImplicit false
namespace K09
open PySem PySem.Spec L2 FL

/-! ### values of all kinds -/
def NotT (x : U) (G : Gp) : Prop := (noRef x ∧ ∀ ys, x ≠ .tup ys) ∨ ∃ l xs, x = .ref l ∧ 0 < l ∧ G[l]? = some (.lst xs)
theorem NotT.is {x : U} {G : Gp} (h : NotT x G) : isRes tbTup x G = .ok (.bl false) G := by
  rcases h with ⟨h1, h2⟩ | ⟨l, xs, rfl, _, e⟩
  · cases x with
    | tup ys => exact absurd rfl (h2 ys)
    | ref l => exact absurd rfl (h1 l)
    | _ => exact isRes_of (tyN_of h1) rfl
  · exact isRes_of (n := "list") (by simp only [tyN, e]) rfl
theorem NotT.ex {x : U} {G G' : Gp} (h : NotT x G) (e : Ext G G') : NotT x G' := by
  rcases h with h | ⟨l, xs, h1, h2, h3⟩
  · exact Or.inl h
  · exact Or.inr ⟨l, xs, h1, h2, e.at_ h2 h3⟩
theorem NotT.nt {x : U} {G : Gp} (h : NotT x G) (ys : List U) : x ≠ .tup ys := by
  rcases h with h | ⟨l, xs, h1, _⟩
  · exact h.2 ys
  · rw [h1]; exact fun e => nomatch e
def RowG (x : U) (G : Gp) : Prop := (∃ ys, x = .tup ys ∧ ys.length ≤ 1000 ∧ ∀ y ∈ ys, noRef y) ∨ NotT x G
def ValG (u : U) (G : Gp) : Prop := (∃ xs, u = .tup xs ∧ xs.length ≤ 1000 ∧ ∀ x ∈ xs, RowG x G) ∨ NotT u G
theorem RowG.ex {x : U} {G G' : Gp} (h : RowG x G) (e : Ext G G') : RowG x G' := by
  rcases h with h | h
  · exact Or.inl h
  · exact Or.inr (h.ex e)
theorem ValG.ex {x : U} {G G' : Gp} (h : ValG x G) (e : Ext G G') : ValG x G' := by
  rcases h with ⟨xs, h1, h2, h3⟩ | h
  · exact Or.inl ⟨xs, h1, h2, fun x hx => (h3 x hx).ex e⟩
  · exact Or.inr (h.ex e)

/-! ### the judges -/
def sndOf : U → Int
  | .tup [_, .int e] => e
  | _ => 0
def prevE (xs : List U) : Nat → Int
  | 0 => 1
  | i + 1 => sndOf (xs.getD i .non)
/-- a pair within the row -/
def PairIn (ps : List Int) (T : Int) (x : U) : Prop := ∃ b e : Int, x = .tup [.int b, .int e] ∧ 0 ≤ b ∧ b < e ∧ e ≤ (ps.length : Int) ∧ T ≤ (cutU ps (some b) (some e)).sum
def fstOf : U → Int
  | .tup [.int b, _] => b
  | _ => 0
def PairOK (ps : List Int) (T a : Int) (x : U) : Prop := PairIn ps T x ∧ a - 1 ≤ fstOf x
def Judge (ps : List Int) (s : Nat) (T : Int) (u : U) : Prop := ∃ xs, u = .tup xs ∧ xs.length = s ∧ ∀ i, i < xs.length → ∃ x, xs[i]? = some x ∧ PairOK ps T (prevE xs i) x
theorem pair_in {ps : List Int} {T : Int} {x : U} {G : Gp} (hr : RowG x G) : ∃ b, F_is_pair_of [.tup (ps.map .int), x, .int T] G = .ok (.bl b) G ∧ (b = true ↔ PairIn ps T x) := by
  rw [run_is_pair_of]
  obtain ⟨ni, hni⟩ : ∃ ni : Int, ni = (ps.length : Int) := ⟨_, rfl⟩
  obtain ⟨rv, hrv⟩ : ∃ rv, rv = U.tup (ps.map .int) := ⟨_, rfl⟩
  have bl0 : bLen [rv] G = .ok (.int ni) G := by rw [hrv, bLen_tup, List.length_map, hni]
  have slr : ∀ lo hi, gSl rv lo hi G = .ok (.tup ((cutU ps lo hi).map .int)) G := fun lo hi => by rw [hrv]; exact sl_tup G
  rw [← hrv]
  rcases hr with ⟨ys, rfl, hyl, hy⟩ | hr
  · have it : isRes tbTup (.tup ys) G = .ok (.bl true) G := rfl
    by_cases h2 : ys.length = 2
    · match ys, h2, hy, it with
      | [y0, y1], _, hy, it =>
        have n0 := hy y0 (by simp)
        have n1 := hy y1 (by simp)
        have bl1 : bLen [.tup [y0, y1]] G = .ok (.int 2) G := bLen_tup _
        have ft := is_from_to_spec n0 0 (ni - 1) G
        have ii := is_integer_spec n1 G
        have noP : (∀ b, y0 ≠ .int b) ∨ (∀ e, y1 ≠ .int e) → ¬ PairIn ps T (.tup [y0, y1]) := fun h ⟨b, e, h1, _⟩ => by
          injection h1 with h1
          injection h1 with h3 h4
          injection h4 with h4 _
          rcases h with h | h
          · exact h b h3
          · exact h e h4
        cases y0 with
        | int b =>
          cases y1 with
          | int e =>
            have ii2 : isI (.int e) = true := rfl
            rw [ii2] at ii
            by_cases c1 : 0 ≤ b ∧ b ≤ ni - 1
            · have hin : inR (.int b) 0 (ni - 1) = true := by simp [inR, c1.1, c1.2]
              rw [hin] at ft
              have sl := slr (some b) (some e)
              have sm := sum_tup (ns := cutU ps (some b) (some e)) G
              have hP : PairIn ps T (.tup [.int b, .int e]) ↔ (b < e ∧ e ≤ ni ∧ T ≤ (cutU ps (some b) (some e)).sum) := by
                constructor
                · rintro ⟨b', e', h1, h2, h3, h4, h5⟩
                  cases h1
                  exact ⟨h3, by omega, h5⟩
                · rintro ⟨h3, h4, h5⟩
                  exact ⟨b, e, rfl, c1.1, h3, by omega, h5⟩
              by_cases c2 : b < e
              · by_cases c3 : e ≤ ni
                · refine ⟨decide (T ≤ (cutU ps (some b) (some e)).sum), ?_, by rw [hP]; simp [c2, c3]⟩
                  simp [g_is_pair_of, it, bl1, bl0, ft, ii, c2, c3, sl, sm]
                · refine ⟨false, ?_, ⟨fun z => (nomatch z), fun z => absurd (hP.mp z).2.1 c3⟩⟩
                  simp [g_is_pair_of, it, bl1, bl0, ft, ii, c2, c3]
              · refine ⟨false, ?_, ⟨fun z => (nomatch z), fun z => absurd (hP.mp z).1 c2⟩⟩
                simp [g_is_pair_of, it, bl1, bl0, ft, ii, c2]
            · have hin : inR (.int b) 0 (ni - 1) = false := by
                by_cases z : 0 ≤ b
                · simp [inR, z]; omega
                · simp [inR, z]
              rw [hin] at ft
              refine ⟨false, ?_, ⟨fun z => (nomatch z), fun ⟨b', e', h1, h2, h3, h4, h5⟩ => ?_⟩⟩
              · simp [g_is_pair_of, it, bl1, bl0, ft]
              · cases h1
                exact absurd ⟨h2, by omega⟩ c1
          | _ =>
            refine ⟨false, ?_, ⟨fun z => (nomatch z), fun z => absurd z (noP (Or.inr fun e h => nomatch h))⟩⟩
            by_cases c : inR (.int b) 0 (ni - 1) = true
            · rw [c] at ft
              simp [g_is_pair_of, it, bl1, bl0, ft, ii, isI]
            · have c : inR (.int b) 0 (ni - 1) = false := by simpa using c
              rw [c] at ft
              simp [g_is_pair_of, it, bl1, bl0, ft]
        | _ =>
          refine ⟨false, ?_, ⟨fun z => (nomatch z), fun z => absurd z (noP (Or.inl fun e h => nomatch h))⟩⟩
          simp [g_is_pair_of, it, bl1, bl0, ft, inR]
    · have bl1 : bLen [.tup ys] G = .ok (.int (ys.length : Nat)) G := bLen_tup _
      obtain ⟨yi, hyi⟩ : ∃ yi : Int, yi = (ys.length : Int) := ⟨_, rfl⟩
      rw [← hyi] at bl1
      have hne : yi ≠ 2 := by omega
      have hne2 : ¬ ((ys.length : Nat) : Int) = 2 := by omega
      refine ⟨false, ?_, ⟨fun z => (nomatch z), fun ⟨b, e, h1, _⟩ => ?_⟩⟩
      · simp [g_is_pair_of, it, bl1, hne, hne2]
      · cases h1
        exact absurd rfl h2
  · have it := hr.is
    refine ⟨false, ?_, ⟨fun z => (nomatch z), fun ⟨b, e, h1, _⟩ => absurd h1 (hr.nt _)⟩⟩
    simp [g_is_pair_of, it]
theorem prevE_succ {xs : List U} {i : Nat} {b e : Int} (h : xs[i]? = some (.tup [.int b, .int e])) : prevE xs (i + 1) = e := by
  show sndOf (xs.getD i .non) = e
  rw [List.getD_eq_getElem?_getD, h]
  rfl
theorem holds_gen {ps : List Int} {w u : U} {s : Nat} {si T : Int} {G : Gp} (h : OkP ps) (h1 : 1 ≤ s) (h2 : s ≤ ps.length) (hsi : si = (s : Int)) (hw : isSeq w (ps.map .int) G) (hv : ValG u G) : ∃ b, F_top_paper_holds [w, .int si, .int T, u] G = .ok (.bl b) G ∧ (b = true ↔ Judge ps s T u) := by
  rw [run_top_paper_holds]
  have ck := cut_ok hw h (s := si) (by omega) (by omega)
  rcases hv with ⟨xs, rfl, hxl, hx⟩ | hv
  · have it : isRes tbTup (.tup xs) G = .ok (.bl true) G := rfl
    have bl : bLen [.tup xs] G = .ok (.int (xs.length : Nat)) G := bLen_tup _
    obtain ⟨xi, hxi⟩ : ∃ xi : Int, xi = (xs.length : Int) := ⟨_, rfl⟩
    rw [← hxi] at bl
    obtain ⟨tv, htv⟩ : ∃ tv, tv = U.tup xs := ⟨_, rfl⟩
    rw [← htv] at it bl
    by_cases hl : xs.length = s
    · have he : xi = si := by omega
      let E (a : Int) (p : Option U) : Ev := [some w, some (.int si), some (.int T), some tv, some (.tup (ps.map .int)), some (.int a), p]
      have L := for_all_tup (f := eVar 3) (gf := gNm 6) (body := g_top_paper_holds_1) (env := E 1 none) (G := G) (G1 := G) (xs := xs) (fun i e G' => (∃ p, e = E (prevE xs i) p) ∧ G' = G) (fun i => ∃ x, xs[i]? = some x ∧ PairOK ps T (prevE xs i) x) (fun G' => G' = G) (by simp [E, htv]) ⟨⟨none, rfl⟩, rfl⟩ (fun i hi e G1 hI => by
        obtain ⟨⟨p, he⟩, hG⟩ := hI
        subst hG
        subst he
        have hr := hx xs[i] (List.getElem_mem hi)
        have hq : (∃ x, xs[i]? = some x ∧ PairOK ps T (prevE xs i) x) ↔ PairOK ps T (prevE xs i) xs[i] := by
          rw [List.getElem?_eq_getElem hi]
          exact ⟨fun ⟨x, e, h⟩ => by cases e; exact h, fun h => ⟨_, rfl, h⟩⟩
        rw [hq]
        have hxe : xs[i]? = some xs[i] := List.getElem?_eq_getElem hi
        generalize xs[i] = x at hr hxe
        obtain ⟨b, e1, hb⟩ := pair_in (ps := ps) (T := T) hr
        obtain ⟨a, ha⟩ : ∃ a, a = prevE xs i := ⟨_, rfl⟩
        rw [← ha]
        cases b with
        | false =>
          refine Or.inr ⟨fun z => (nomatch (hb.mpr z.1)), G1, ?_, rfl⟩
          simp [E, g_top_paper_holds_1, e1]
        | true =>
          obtain ⟨b, e, hxx, hb0, hbe, hen, hsm⟩ := hb.mp rfl
          subst hxx
          have i0 : ∀ G', gIdx (.tup [.int b, .int e]) (.int 0) G' = .ok (.int b) G' := fun G' => gIdx_tup rfl
          have i1 : ∀ G', gIdx (.tup [.int b, .int e]) (.int 1) G' = .ok (.int e) G' := fun G' => gIdx_tup rfl
          by_cases c : b < a - 1
          · refine Or.inr ⟨fun z => ?_, G1, ?_, rfl⟩
            · have : a - 1 ≤ b := z.2
              omega
            · simp [E, g_top_paper_holds_1, e1, i0, c]
          · refine Or.inl ⟨⟨hb.mp rfl, by show a - 1 ≤ b; omega⟩, E e (some (.tup [.int b, .int e])), G1, ?_, ⟨_, by rw [prevE_succ hxe]⟩, rfl⟩
            simp [E, g_top_paper_holds_1, e1, i0, i1, c])
      have s0 : g_top_paper_holds [some w, some (.int si), some (.int T), some tv, none, none, none] G = sSeq (sFor (iOf (eVar 3) kSeq) (gNm 6) g_top_paper_holds_1) (sRet (eC (.bl true))) (E 1 none) G := by
        unfold g_top_paper_holds
        rw [seq_nx (e' := [some w, some (.int si), some (.int T), some tv, some (.tup (ps.map .int)), none, none]) (G' := G) (by simp [ck]), seq_nx (e' := [some w, some (.int si), some (.int T), some tv, some (.tup (ps.map .int)), none, none]) (G' := G) (by simp [it, bl, he]), seq_nx (e' := E 1 none) (G' := G) (by simp [E])]
      rw [← htv, s0]
      rcases L with ⟨hq, e', G', e1, _, hG⟩ | ⟨hq, G', e1, hG⟩
      · subst hG
        rw [seq_nx e1]
        refine ⟨true, by simp, ⟨fun _ => ⟨xs, htv, hl, hq⟩, fun _ => rfl⟩⟩
      · subst hG
        rw [sSeq_, e1]
        refine ⟨false, by simp, ⟨fun z => (nomatch z), fun ⟨ys, h1, h2, h3⟩ => ?_⟩⟩
        have : U.tup xs = U.tup ys := htv.symm.trans h1
        cases this
        exact absurd h3 hq
    · have he : xi ≠ si := by omega
      refine ⟨false, ?_, ⟨fun z => (nomatch z), fun ⟨ys, h1, h2, h3⟩ => ?_⟩⟩
      · rw [← htv]
        simp [g_top_paper_holds, ck, it, bl, he]
      · cases h1
        exact absurd h2 hl
  · have it := hv.is
    refine ⟨false, ?_, ⟨fun z => (nomatch z), fun ⟨ys, h1, _⟩ => absurd h1 (hv.nt ys)⟩⟩
    simp [g_top_paper_holds, ck, it]
end K09

set_option Elab.async false
set_option linter.all false
set_option maxRecDepth 100000
set_option maxHeartbeats 4000000
set_option autoImplicit false
namespace K09
open PySem PySem.Spec L2 FL

/-! ### prices -/
def OkC (ps : List Int) : Prop := 1 ≤ ps.length ∧ ps.length ≤ 14 ∧ ∀ p ∈ ps, 1 ≤ p ∧ p ≤ 20
theorem OkC.ok {ps : List Int} (h : OkC ps) : OkP ps := ⟨h.1, h.2.1, fun p hp => by have := h.2.2 p hp; omega⟩
theorem prices_spec {G : Gp} (hD : Dr G) : ∃ (l : Nat) (G' : Gp) (ps : List Int), F__law_prices [.ref 0] G = .ok (.ref l) G' ∧ G'[l]? = some (.lst (ps.map .int)) ∧ 0 < l ∧ OkC ps ∧ Dr G' ∧ Ext G G' := by
  rw [run__law_prices]
  obtain ⟨r1, G1, e1, a1, b1, o1, d1⟩ := next_spec (b := 9) hD (by decide)
  obtain ⟨r2, G2, e2, a2, b2, o2, d2⟩ := next_spec (b := 4) d1 (by decide)
  have x2 : Ext G G2 := o1.ext.trans o2.ext
  have s2 : ∃ (n : Nat) (G3 : Gp), sIf (bVal (eBin gEq (eCall F__law_next (aCons (eVar 0) (aCons (eC (.int 4)) aNil))) (eC (.int 0)))) g__law_prices_1 sNil [some (.ref 0), some (.int (1 + r1)), none, none, none, none] G1 = .nx [some (.ref 0), some (.int (n : Nat)), none, none, none, none] G3 ∧ 1 ≤ n ∧ n ≤ 14 ∧ Dr G3 ∧ Ext G G3 := by
    by_cases c : r2 = 0
    · obtain ⟨r3, G3, e3, a3, b3, o3, d3⟩ := next_spec (b := 5) d2 (by decide)
      refine ⟨(10 + r3).toNat, G3, ?_, by omega, by omega, d3, x2.trans o3.ext⟩
      rw [show (((10 + r3).toNat : Nat) : Int) = 10 + r3 by omega]
      simp [e2, c, g__law_prices_1, e3]
    · refine ⟨(1 + r1).toNat, G2, ?_, by omega, by omega, d2, x2⟩
      rw [show (((1 + r1).toNat : Nat) : Int) = 1 + r1 by omega]
      simp [e2, c]
  obtain ⟨n, G3, s2, n1, n14, d3, x3⟩ := s2
  obtain ⟨kind, G4, e4, a4, b4, o4, d4⟩ := next_spec (b := 4) d3 (by decide)
  have x4 := x3.trans o4.ext
  obtain ⟨ni, hni⟩ : ∃ ni : Int, ni = (n : Int) := ⟨_, rfl⟩
  rw [← hni] at s2
  by_cases k3 : kind = 3
  · obtain ⟨r5, G5, e5, a5, b5, o5, d5⟩ := next_spec (b := 20) d4 (by decide)
    obtain ⟨vs, G6, e6, at6, l6, q6, d6, x6⟩ := comp_rng (own := [5]) (fa := aCons (eVar 1) aNil) (k := 5) (fe := eVar 3) (env := [some (.ref 0), some (.int ni), some (.int 3), some (.int (1 + r5)), none, none]) (G := G5) (G1 := G5) (n := n) (fun v => v = 1 + r5) (by simp [hni]) (by omega) d5 (fun i G2 hi hd _ => ⟨1 + r5, G2, by simp [wipeE], rfl, ⟨rfl, fun _ _ => rfl⟩, hd⟩)
    refine ⟨G5.length, G6, vs, ?_, at6, d5.len, ⟨by omega, by omega, fun p hp => by have := q6 p hp; omega⟩, d6, x4.trans (o5.ext.trans x6)⟩
    unfold g__law_prices
    rw [seq_nx (e' := [some (.ref 0), some (.int (1 + r1)), none, none, none, none]) (G' := G1) (by simp [e1]), seq_nx s2, seq_nx (e' := [some (.ref 0), some (.int ni), some (.int 3), none, none, none]) (G' := G4) (by simp [e4, k3])]
    have ec : g__law_prices_2 [some (.ref 0), some (.int ni), some (.int 3), none, none, none] G4 = .ret (.ref G5.length) G6 := by
      unfold g__law_prices_2
      rw [seq_nx (e' := [some (.ref 0), some (.int ni), some (.int 3), some (.int (1 + r5)), none, none]) (G' := G5) (by simp [e5])]
      rw [sRet_, e6]
      rfl
    simp [ec]
  · obtain ⟨bnd, ib, hb0, hb1⟩ : ∃ bnd : Int, gIdx (.tup [.int 3, .int 8, .int 20]) (.int kind) G4 = .ok (.int bnd) G4 ∧ 0 < bnd ∧ bnd ≤ 20 := by
      have : kind = 0 ∨ kind = 1 ∨ kind = 2 := by omega
      rcases this with rfl | rfl | rfl
      · exact ⟨3, rfl, by decide, by decide⟩
      · exact ⟨8, rfl, by decide, by decide⟩
      · exact ⟨20, rfl, by decide, by decide⟩
    obtain ⟨vs, G6, e6, at6, l6, q6, d6, x6⟩ := comp_rng (own := [5]) (fa := aCons (eVar 1) aNil) (k := 5) (fe := eBin gAdd (eC (.int 1)) (eCall F__law_next (aCons (eVar 0) (aCons (eVar 4) aNil)))) (env := [some (.ref 0), some (.int ni), some (.int kind), none, some (.int bnd), none]) (G := G4) (G1 := G4) (n := n) (fun v => 1 ≤ v ∧ v ≤ 20) (by simp [hni]) (by omega) d4 (fun i G2 hi hd _ => by
      obtain ⟨r, G3, e3, a3, b3, o3, d3⟩ := next_spec (b := bnd) hd hb0
      exact ⟨1 + r, G3, by simp [wipeE, e3], by omega, o3, d3⟩)
    refine ⟨G4.length, G6, vs, ?_, at6, d4.len, ⟨by omega, by omega, q6⟩, d6, x4.trans x6⟩
    unfold g__law_prices
    rw [seq_nx (e' := [some (.ref 0), some (.int (1 + r1)), none, none, none, none]) (G' := G1) (by simp [e1]), seq_nx s2, seq_nx (e' := [some (.ref 0), some (.int ni), some (.int kind), none, none, none]) (G' := G4) (by simp [e4]), seq_nx (e' := [some (.ref 0), some (.int ni), some (.int kind), none, none, none]) (G' := G4) (by simp [k3]), seq_nx (e' := [some (.ref 0), some (.int ni), some (.int kind), none, some (.int bnd), none]) (G' := G4) (by simp [ib])]
    rw [sRet_, e6]
    rfl
/-! ### heaps -/
def Hs (row : List Int) (e : Nat) : Int := (row.take e).sum
theorem Hs_succ {row : List Int} {e : Nat} (h : e < row.length) : Hs row (e + 1) = Hs row e + row[e] := by
  unfold Hs
  rw [List.take_succ_eq_append_getElem h, List.sum_append]
  simp
theorem Hs_mid {row : List Int} {b e : Nat} (h : b ≤ e) : Hs row e - Hs row b = ((row.drop b).take (e - b)).sum := by
  have e1 : row.take e = row.take b ++ (row.drop b).take (e - b) := by
    have := List.take_add (l := row) (i := b) (j := e - b)
    rw [show b + (e - b) = e by omega] at this
    exact this
  unfold Hs
  rw [e1, List.sum_append]
  omega
theorem Hs_mono {row : List Int} (hp : PosR row) {b e : Nat} (h : b ≤ e) : Hs row b ≤ Hs row e := by
  have := Hs_mid (row := row) h
  have := sum_nonneg (p := (row.drop b).take (e - b)) (fun c hc => hp c (List.mem_of_mem_drop (List.mem_of_mem_take hc)))
  omega
/-- a list of ints told by a function -/
def fL (f : Nat → Int) (k : Nat) : List U := (List.range k).map fun e => .int (f e)
theorem fL_len (f : Nat → Int) (k : Nat) : (fL f k).length = k := by simp [fL]
theorem fL_get {f : Nat → Int} {k e : Nat} (h : e < k) : (fL f k)[e]? = some (.int (f e)) := by
  unfold fL
  rw [List.getElem?_map, List.getElem?_range h]; rfl
theorem fL_succ (f : Nat → Int) (k : Nat) : fL f (k + 1) = fL f k ++ [.int (f k)] := by
  unfold fL
  rw [List.range_succ, List.map_append]; rfl
theorem fL_at {f : Nat → Int} {k e l : Nat} {i : Int} {G : Gp} (hl : G[l]? = some (.lst (fL f k))) (h : e < k) (hi : i = (e : Int)) : gIdx (.ref l) (.int i) G = .ok (.int (f e)) G :=
  gIdx_ref hl (atI_pos (by omega) (by rw [show i.toNat = e by omega]; exact fL_get h))
theorem fL_end {f : Nat → Int} {k l : Nat} {G : Gp} (hl : G[l]? = some (.lst (fL f k))) (h : 0 < k) : gIdx (.ref l) (.int (-1)) G = .ok (.int (f (k - 1))) G :=
  gIdx_ref hl (atI_last (by rw [List.getLast?_eq_getElem?, fL_len]; exact fL_get (by omega)))
theorem fL_map (f : Nat → Int) (k : Nat) : fL f k = ((List.range k).map f).map .int := by
  unfold fL
  rw [List.map_map]; rfl
theorem heaps_spec {ps : List Int} {lp : Nat} {G : Gp} (h : OkC ps) (hp : G[lp]? = some (.lst (ps.map .int))) : ∃ G', F__law_heaps [.ref lp] G = .ok (.ref G.length) G' ∧ Ex0 G G' ∧ G'[G.length]? = some (.lst (fL (Hs ps) (ps.length + 1))) := by
  rw [run__law_heaps]
  have hn := h.2.1
  obtain ⟨lh, hlh⟩ : ∃ lh, lh = G.length := ⟨_, rfl⟩
  rw [← hlh]
  obtain ⟨G1, hG1⟩ : ∃ G1, G1 = G ++ [OU.lst [.int 0]] := ⟨_, rfl⟩
  have x1 : Ex0 G G1 := by rw [hG1]; exact ex0_push _ _
  have a1 : G1[lh]? = some (.lst (fL (Hs ps) 1)) := by rw [hG1, hlh, push_at]; rfl
  let E0 (p : Option U) : Ev := [some (.ref lp), some (.ref lh), p]
  have L1 : ∃ p G2, sFor (iOf (eVar 0) kSeq) (gNm 2) g__law_heaps_1 (E0 none) G1 = .nx (E0 p) G2 ∧ Ex0 G G2 ∧ G2[lh]? = some (.lst (fL (Hs ps) (ps.length + 1))) := by
    have hlm : (ps.map U.int).length = ps.length := List.length_map ..
    refine sFor_ref (l := lp) (xs := ps.map .int) (G1 := G1) (fun i ev G' => ∃ p, ev = E0 p ∧ Ex0 G G' ∧ G'[lh]? = some (.lst (fL (Hs ps) (i + 1)))) (fun r => ∃ p G2, r = .nx (E0 p) G2 ∧ Ex0 G G2 ∧ G2[lh]? = some (.lst (fL (Hs ps) (ps.length + 1)))) (by simp [E0]) (x1.at_ hp) (fun i ev G' hI => by obtain ⟨p, _, x, _⟩ := hI; exact x.at_ hp) ⟨none, rfl, x1, a1⟩ ?_ ?_
    · intro i hi ev G' hI
      obtain ⟨p, he, x, a⟩ := hI
      subst he
      have hi' : i < ps.length := by omega
      have hget : (ps.map U.int)[i] = .int ps[i] := by rw [List.getElem_map]
      rw [hget]
      have hD : Hs ps (i + 1) = Hs ps i + ps[i] := Hs_succ hi'
      generalize ps[i] = pr at hD ⊢
      have i1 := fL_end a (by omega)
      rw [Nat.add_sub_cancel] at i1
      have ap : mAppend (.ref lh) [.int (Hs ps i + pr)] G' = .ok .non (G'.set lh (.lst (fL (Hs ps) (i + 1 + 1)))) := by
        rw [mAppend_ref a (by rw [fL_len]; omega), ← hD, fL_succ (Hs ps) (i + 1)]
      have il := isLst_ref a
      have fine : (gNm 2 (.int pr) (E0 p) G').andThen (E0 p) (fun env1 G1 => g__law_heaps_1 env1 G1) = .nx (E0 (some (.int pr))) (G'.set lh (.lst (fL (Hs ps) (i + 1 + 1)))) := by
        simp [E0, g__law_heaps_1, eMeth_, il, i1, ap]
      rw [fine]
      exact ⟨_, rfl, ex0_set x (by omega) _, set_get a⟩
    · intro ev G' hI
      obtain ⟨p, he, x, a⟩ := hI
      subst he
      rw [hlm] at a
      exact ⟨p, G', rfl, x, a⟩
  obtain ⟨p, G2, L1, x2, a2⟩ := L1
  refine ⟨G2, ?_, x2, a2⟩
  unfold g__law_heaps
  rw [seq_nx (e' := E0 none) (G' := G1) (by simp [E0, hG1, hlh]), seq_nx L1]
  simp [E0]
/-! ### the least tops from the back -/
def Rr (row : List Int) : Nat → Nat → Int
  | 0, b => Hs row row.length - Hs row b
  | s + 1, b => minL ((List.range (row.length - (s + 1) - b)).map fun j => max (Hs row (b + 1 + j) - Hs row b) (Rr row s (b + 1 + j)))
theorem minL_le {l : List Int} (hn : l ≠ []) (T : Int) : minL l ≤ T ↔ ∃ y ∈ l, y ≤ T := by
  obtain ⟨h1, h2⟩ := minL_spec hn
  exact ⟨fun h => ⟨_, h1, h⟩, fun ⟨y, hy, h⟩ => Int.le_trans (h2 y hy) h⟩
theorem cut_len {T : Int} : ∀ (s : Nat) (l : List Int), Cut T s l → s ≤ l.length
  | 0, _, _ => Nat.zero_le _
  | s + 1, l, ⟨e, h1, h2, _, h4⟩ => by
    have := cut_len s _ h4
    rw [List.length_drop] at this
    omega
theorem R_le {row : List Int} {T : Int} : ∀ s b, b + s + 1 ≤ row.length → (Rr row s b ≤ T ↔ Cut T (s + 1) (row.drop b))
  | 0, b, h => by
    have hm := Hs_mid (row := row) (b := b) (e := row.length) (by omega)
    have ht : (row.drop b).take (row.length - b) = row.drop b := List.take_of_length_le (by simp)
    rw [ht] at hm
    show Hs row row.length - Hs row b ≤ T ↔ _
    rw [hm]
    constructor
    · intro hs
      refine ⟨row.length - b, by omega, by simp, by rw [ht]; exact hs, ?_⟩
      show (row.drop b).drop (row.length - b) = []
      rw [List.drop_drop]
      exact List.drop_eq_nil_of_le (by omega)
    · rintro ⟨e, h1, h2, h3, h4⟩
      have h4 : (row.drop b).drop e = [] := h4
      rw [List.length_drop] at h2
      have hl := congrArg List.length h4
      simp only [List.length_drop, List.length_nil] at hl
      have he : e = row.length - b := by omega
      rw [he, ht] at h3
      exact h3
  | s + 1, b, h => by
    unfold Rr
    rw [minL_le (fun z => by
      have := congrArg List.length z
      simp at this
      omega)]
    constructor
    · rintro ⟨y, hy, hT⟩
      obtain ⟨j, hj, rfl⟩ := List.mem_map.mp hy
      have hj := List.mem_range.mp hj
      refine ⟨1 + j, by omega, by rw [List.length_drop]; omega, ?_, ?_⟩
      · have := Hs_mid (row := row) (b := b) (e := b + 1 + j) (by omega)
        rw [show b + 1 + j - b = 1 + j by omega] at this
        omega
      · rw [List.drop_drop, show b + (1 + j) = b + 1 + j by omega]
        exact (R_le s (b + 1 + j) (by omega)).mp (by omega)
    · rintro ⟨e, h1, h2, h3, h4⟩
      rw [List.drop_drop] at h4
      rw [List.length_drop] at h2
      have hl := cut_len _ _ h4
      rw [List.length_drop] at hl
      refine ⟨_, List.mem_map.mpr ⟨e - 1, List.mem_range.mpr (by omega), rfl⟩, ?_⟩
      have e1 : b + 1 + (e - 1) = b + e := by omega
      rw [e1]
      have h5 := Hs_mid (row := row) (b := b) (e := b + e) (by omega)
      rw [show b + e - b = e by omega] at h5
      have := (R_le (T := T) s (b + e) (by omega)).mpr h4
      omega
theorem R_isTop {row : List Int} {s : Nat} (hp : PosR row) (hn : row ≠ []) (h1 : 1 ≤ s) (h2 : s ≤ row.length) : IsTop row s (Rr row (s - 1) 0) := by
  have key : ∀ T, Rr row (s - 1) 0 ≤ T ↔ Cut T s row := fun T => by
    rw [R_le (s - 1) 0 (by omega), List.drop_zero, show s - 1 + 1 = s by omega]
  have c := (key _).mp (Int.le_refl _)
  obtain ⟨T, hT⟩ : ∃ T, T = Rr row (s - 1) 0 := ⟨_, rfl⟩
  rw [← hT] at key c ⊢
  obtain ⟨ps, e1, e2, e3⟩ := cut_iff_parts.mp c
  have hall : ∀ c ∈ row, 1 ≤ c ∧ c ≤ T := fun c hc => by
    rw [← e1] at hc hp
    obtain ⟨q, hq, hcq⟩ := List.mem_flatten.mp hc
    exact mem_le_top (posR_flat hp q hq) (e3 q hq).2 c hcq
  refine ⟨(hall _ (maxL_spec hn).1).2, ((cut_iff hall).mp c).1, fun t t1 t2 => ?_⟩
  have hnc : ¬ Cut t s row := fun z => by have := (key t).mpr z; omega
  rw [cut_iff (posR_le hp hn t1)] at hnc
  omega
/-- the table of the least tops in the heap -/
def RT (ps : List Int) (lr m : Nat) (G : Gp) : Prop := ∃ ls : List Nat, G[lr]? = some (.lst (ls.map .ref)) ∧ ls.length = m ∧ ∀ (s : Nat) (hs : s < ls.length), 1 ≤ s → G[ls[s]]? = some (.lst (fL (Rr ps (s - 1)) (ps.length - s + 1)))
theorem RT.ex {ps : List Int} {lr m : Nat} {G G' : Gp} (h : RT ps lr m G) (x : Ex0 G G') : RT ps lr m G' := by
  obtain ⟨ls, h1, h2, h3⟩ := h
  exact ⟨ls, x.at_ h1, h2, fun s hs s1 => x.at_ (h3 s hs s1)⟩
theorem RT.at_ {ps : List Int} {lr m s b : Nat} {si bi : Int} {G : Gp} (h : RT ps lr m G) (s1 : 1 ≤ s) (s2 : s < m) (hb : b < ps.length - s + 1) (hs : si = (s : Int)) (hbi : bi = (b : Int)) : ∃ l, gIdx (.ref lr) (.int si) G = .ok (.ref l) G ∧ gIdx (.ref l) (.int bi) G = .ok (.int (Rr ps (s - 1) b)) G := by
  obtain ⟨ls, h1, h2, h3⟩ := h
  refine ⟨ls[s]'(by omega), gIdx_ref h1 (atI_pos (by omega) ?_), fL_at (h3 s (by omega) s1) hb hbi⟩
  rw [show si.toNat = s by omega, List.getElem?_map, List.getElem?_eq_getElem (by omega)]
  rfl
end K09

set_option Elab.async false
set_option linter.all false
set_option maxRecDepth 100000
set_option maxHeartbeats 4000000
set_option autoImplicit false
namespace K09
open PySem PySem.Spec L2 FL

theorem srcx_rng2 {a b : Int} {G : Gp} (h1 : -1000000 ≤ a) (h2 : a < 1000000) (h3 : -1000000 ≤ b) (h4 : b < 1000000) : ∃ src, kRng2 [.int a, .int b] G = some src ∧ SrcX src ((List.range (b - a).toNat).map fun i => U.int (a + (i : Nat))) G := by
  obtain ⟨src, e, g⟩ := gives_rng2 (I := fun _ _ _ => True) (a := a) (j := b) (by omega) (by omega) (by omega) (by omega) (G := G)
  exact ⟨src, e, g.1, fun i G2 hi _ => g.2 i [] G2 hi trivial⟩
theorem filt_true {α : Type} (l : List α) : l.filter (fun _ => true) = l := List.filter_eq_self.mpr fun _ _ => rfl
/-! ### the walk of the tops -/
def EnvT (lh : Nat) (n : Int) (lr : Nat) (s ro b to p : Option U) : Ev := [some (.ref lh), some (.int n), some (.ref lr), s, ro, b, to, p]
theorem rest_in {ps : List Int} {lh lr lw m : Nat} {ni si : Int} {b0 t0 p0 : Option U} {G : Gp} (h : OkC ps) (hh : G[lh]? = some (.lst (fL (Hs ps) (ps.length + 1)))) (hr : RT ps lr m G) (hn : ni = (ps.length : Int)) (hs : si = (m : Int)) (m2 : 2 ≤ m) (m3 : m ≤ ps.length) (hlw : G[lw]? = some (.lst [])) (hne : lw ≠ lh ∧ lw ≠ lr) (hnl : ∀ ls : List Nat, G[lr]? = some (.lst (ls.map .ref)) → ∀ l ∈ ls, l ≠ lw) :
    ∃ b' t' G', sFor (iOfs (aCons (eBin gAdd (eBin FL.gSub (eVar 1) (eVar 3)) (eC (.int 1))) aNil) kRng1) (gNm 5) g__law_rest_1 (EnvT lh ni lr (some (.int si)) (some (.ref lw)) b0 t0 p0) G = .nx (EnvT lh ni lr (some (.int si)) (some (.ref lw)) b' t' p0) G' ∧ G.length ≤ G'.length ∧ (∀ l, l < G.length → l ≠ lw → G'[l]? = G[l]?) ∧ G'[lw]? = some (.lst (fL (Rr ps (m - 1)) (ps.length - m + 1))) := by
  have hn14 := h.2.1
  have lth := (List.getElem?_eq_some_iff.mp hh).1
  have ltw := (List.getElem?_eq_some_iff.mp hlw).1
  obtain ⟨ls, hr1, hr2, hr3⟩ := hr
  have ltr := (List.getElem?_eq_some_iff.mp hr1).1
  have hnl := hnl ls hr1
  refine sFor_rng1 (j := ni - si + 1) (G1 := G) (fun b ev G' => ∃ b' t', ev = EnvT lh ni lr (some (.int si)) (some (.ref lw)) b' t' p0 ∧ G.length ≤ G'.length ∧ (∀ l, l < G.length → l ≠ lw → G'[l]? = G[l]?) ∧ G'[lw]? = some (.lst (fL (Rr ps (m - 1)) b)))
    (fun r => ∃ b' t' G', r = .nx (EnvT lh ni lr (some (.int si)) (some (.ref lw)) b' t' p0) G' ∧ G.length ≤ G'.length ∧ (∀ l, l < G.length → l ≠ lw → G'[l]? = G[l]?) ∧ G'[lw]? = some (.lst (fL (Rr ps (m - 1)) (ps.length - m + 1)))) (by simp [EnvT]) (by omega) (by omega) ⟨b0, t0, rfl, Nat.le_refl _, fun _ _ _ => rfl, hlw⟩ ?_ ?_
  · intro b hb ev G1 hI
    obtain ⟨b', t', he, l1, o1, a1⟩ := hI
    subst he
    have hb' : b < ps.length - m + 1 := by omega
    have h1 : G1[lh]? = some (.lst (fL (Hs ps) (ps.length + 1))) := by rw [o1 lh lth (Ne.symm hne.1)]; exact hh
    have r1 : RT ps lr m G1 := ⟨ls, by rw [o1 lr ltr (Ne.symm hne.2)]; exact hr1, hr2, fun s hs s1 => by
      have := hr3 s hs s1
      rw [o1 _ (List.getElem?_eq_some_iff.mp this).1 (hnl _ (List.getElem_mem hs))]
      exact this⟩
    generalize hbi' : ((b : Nat) : Int) = bi
    have hbi := hbi'.symm
    clear hbi'
    obtain ⟨src, c1, hsx⟩ := srcx_rng2 (a := bi + 1) (b := ni - si + 2) (G := G1) (by omega) (by omega) (by omega) (by omega)
    let f : Nat → Int := fun j => max (Hs ps (b + 1 + j) - Hs ps b) (Rr ps (m - 2) (b + 1 + j))
    obtain ⟨G2, e2, x2, at2⟩ := comp_pure (own := [7]) (fi := iOfs (aCons (eBin gAdd (eVar 5) (eC (.int 1))) (aCons (eBin gAdd (eBin FL.gSub (eVar 1) (eVar 3)) (eC (.int 2))) aNil)) kRng2) (G := G1) (G1 := G1) (gf := gNm 7) (ft := tYesB) (fe := eCall bMax2 (aCons (eBin FL.gSub (eBin gIdx (eVar 0) (eVar 7)) (eBin gIdx (eVar 0) (eVar 5))) (aCons (eBin gIdx (eBin gIdx (eVar 2) (eBin FL.gSub (eVar 3) (eC (.int 1)))) (eVar 7)) aNil))) (env := EnvT lh ni lr (some (.int si)) (some (.ref lw)) (some (.int bi)) t' p0) (ys := List.range (ni - si + 2 - (bi + 1)).toNat) (g := fun j => U.int (bi + 1 + (j : Nat))) (fun _ => true) (fun j => U.int (f j)) (iOfs_ok (us := [.int (bi + 1), .int (ni - si + 2)]) (by simp [EnvT]) c1) hsx (by simp; omega) (fun j hj G3 x => by
      have hj' : j < (ni - si + 2 - (bi + 1)).toNat := by simpa using hj
      rw [List.getElem_range]
      obtain ⟨pi, hpi⟩ : ∃ pi : Int, pi = bi + 1 + (j : Int) := ⟨_, rfl⟩
      have i1 := fL_at (e := b + 1 + j) (i := pi) (x.at_ h1) (by omega) (by omega)
      have i2 := fL_at (e := b) (i := bi) (x.at_ h1) (by omega) (by omega)
      obtain ⟨l, i3, i4⟩ := (r1.ex x).at_ (s := m - 1) (b := b + 1 + j) (si := si - 1) (bi := pi) (by omega) (by omega) (by omega) (by omega) (by omega)
      rw [← hpi]
      have hf : f j = max (Hs ps (b + 1 + j) - Hs ps b) (Rr ps (m - 1 - 1) (b + 1 + j)) := rfl
      rw [hf]
      generalize Hs ps (b + 1 + j) = z1 at i1 ⊢
      generalize Hs ps b = z2 at i2 ⊢
      generalize Rr ps (m - 1 - 1) (b + 1 + j) = z3 at i4 ⊢
      exact ⟨_, rfl, rfl, fun _ => by simp [EnvT, wipeE, i1, i2, i3, i4]⟩)
    rw [filt_true] at at2
    obtain ⟨m', hm'⟩ : ∃ m', m - 1 = m' + 1 := ⟨m - 2, by omega⟩
    have hD : Rr ps (m - 1) b = minL ((List.range (ni - si + 2 - (bi + 1)).toNat).map f) := by
      rw [show (ni - si + 2 - (bi + 1)).toNat = ps.length - (m' + 1) - b by omega, hm']
      show minL _ = minL _
      have : m - 2 = m' := by omega
      simp only [f, this]
    have bm : bMin [.ref G1.length] G2 = .ok (.int (Rr ps (m - 1) b)) G2 := by
      rw [hD]
      refine bInts_seq (by rw [seqU_of at2, List.map_map]; rfl) (fun h => ?_)
      have := congrArg List.length h.2
      simp at this
      omega
    have a2 := x2.at_ a1
    have ap : mAppend (.ref lw) [.int (Rr ps (m - 1) b)] G2 = .ok .non (G2.set lw (.lst (fL (Rr ps (m - 1)) (b + 1)))) := by
      rw [mAppend_ref a2 (by rw [fL_len]; omega), fL_succ]
    have il := isLst_ref a2
    have fine : (gNm 5 (.int bi) (EnvT lh ni lr (some (.int si)) (some (.ref lw)) b' t' p0) G1).andThen (EnvT lh ni lr (some (.int si)) (some (.ref lw)) b' t' p0) (fun env1 G1 => g__law_rest_1 env1 G1) = .nx (EnvT lh ni lr (some (.int si)) (some (.ref lw)) (some (.int bi)) (some (.ref G1.length)) p0) (G2.set lw (.lst (fL (Rr ps (m - 1)) (b + 1)))) := by
      rw [gNm_, r_then_ok]
      show g__law_rest_1 (EnvT lh ni lr (some (.int si)) (some (.ref lw)) (some (.int bi)) t' p0) G1 = _
      unfold g__law_rest_1
      rw [seq_nx (e' := EnvT lh ni lr (some (.int si)) (some (.ref lw)) (some (.int bi)) (some (.ref G1.length)) p0) (G' := G2) (by rw [sAsg_, e2]; rfl)]
      simp [EnvT, eMeth_, il, bm, ap]
    rw [fine]
    refine ⟨_, _, rfl, by have := x2.1; simp; omega, fun l h0 h1 => ?_, ?_⟩
    · rw [List.getElem?_set_ne (Ne.symm h1), x2.2 l (by omega), o1 l h0 h1]
    · exact set_get a2
  · intro ev G1 hI
    obtain ⟨b', t', he, l1, o1, a1⟩ := hI
    subst he
    refine ⟨b', t', G1, rfl, l1, o1, ?_⟩
    rw [show (ni - si + 1).toNat = ps.length - m + 1 by omega] at a1
    exact a1
theorem rest_spec {ps : List Int} {lh : Nat} {G : Gp} (h : OkC ps) (hh : G[lh]? = some (.lst (fL (Hs ps) (ps.length + 1)))) : ∃ lr G', F__law_rest [.ref lh] G = .ok (.ref lr) G' ∧ Ex0 G G' ∧ RT ps lr (ps.length + 1) G' := by
  rw [run__law_rest]
  have hn1 := h.1
  have hn := h.2.1
  obtain ⟨ni, hni⟩ : ∃ ni : Int, ni = (ps.length : Int) := ⟨_, rfl⟩
  have bl : bLen [.ref lh] G = .ok (.int (ni + 1)) G := by
    rw [bLen_seq (seqU_of hh), fL_len]
    congr 2
    omega
  obtain ⟨L0, hL0⟩ : ∃ L0, L0 = G.length := ⟨_, rfl⟩
  obtain ⟨G1, hG1⟩ : ∃ G1, G1 = G ++ [OU.lst []] := ⟨_, rfl⟩
  have x1 : Ex0 G G1 := by rw [hG1]; exact ex0_push _ _
  have h1 := x1.at_ hh
  obtain ⟨src, c1, hsx⟩ := srcx_rng (n := ps.length) (G := G1) (by omega)
  rw [← hni] at c1
  obtain ⟨G2, e2, x2, at2⟩ := comp_pure (own := [5]) (fi := iOfs (aCons (eVar 1) aNil) kRng1) (G := G1) (G1 := G1) (gf := gNm 5) (ft := tYesB) (fe := eBin FL.gSub (eBin gIdx (eVar 0) (eVar 1)) (eBin gIdx (eVar 0) (eVar 5))) (env := [some (.ref lh), some (.int ni), none, none, none, none, none, none]) (ys := List.range ps.length) (g := fun j => U.int (j : Nat)) (fun _ => true) (fun j => U.int (Rr ps 0 j)) (iOfs_ok (us := [.int ni]) (by simp) c1) hsx (by simp; omega) (fun j hj G3 x => by
    have hj' : j < ps.length := by simpa using hj
    rw [List.getElem_range]
    obtain ⟨ji, hji⟩ : ∃ ji : Int, ji = (j : Int) := ⟨_, rfl⟩
    have i1 := fL_at (e := ps.length) (i := ni) (x.at_ h1) (by omega) hni
    have i2 := fL_at (e := j) (i := ji) (x.at_ h1) (by omega) hji
    have hf : Rr ps 0 j = Hs ps ps.length - Hs ps j := rfl
    rw [hf, ← hji]
    generalize Hs ps ps.length = z1 at i1 ⊢
    generalize Hs ps j = z2 at i2 ⊢
    exact ⟨_, rfl, rfl, fun _ => by simp [wipeE, i1, i2]⟩)
  rw [filt_true] at at2
  obtain ⟨L1, hL1⟩ : ∃ L1, L1 = G1.length := ⟨_, rfl⟩
  obtain ⟨lr, hlr⟩ : ∃ lr, lr = G2.length := ⟨_, rfl⟩
  obtain ⟨G3, hG3⟩ : ∃ G3, G3 = G2 ++ [OU.lst [.ref L0, .ref L1]] := ⟨_, rfl⟩
  have x3 : Ex0 G2 G3 := by rw [hG3]; exact ex0_push _ _
  have a3 : G3[lr]? = some (.lst ([L0, L1].map .ref)) := by rw [hG3, hlr]; exact push_at _ _
  have b3 : G3[L1]? = some (.lst (fL (Rr ps 0) (ps.length - 1 + 1))) := by
    rw [show ps.length - 1 + 1 = ps.length by omega, hL1]
    exact x3.at_ at2
  have hgl : G.length < G1.length := by rw [hG1]; simp
  have hg2 : G1.length < G2.length := (List.getElem?_eq_some_iff.mp at2).1
  have hg3 : G2.length < G3.length := by rw [hG3]; simp
  have x03 : Ex0 G G3 := (x1.trans x2).trans x3
  have L : ∃ s ro b to G4, sFor (iOfs (aCons (eC (.int 2)) (aCons (eBin gAdd (eVar 1) (eC (.int 1))) aNil)) kRng2) (gNm 3) g__law_rest_2 (EnvT lh ni lr none none none none none) G3 = .nx (EnvT lh ni lr s ro b to none) G4 ∧ Ex0 G G4 ∧ RT ps lr (ps.length + 1) G4 := by
    refine sFor_rng2 (a := 2) (j := ni + 1) (G1 := G3) (fun i ev G' => ∃ s ro b to, ev = EnvT lh ni lr s ro b to none ∧ Ex0 G G' ∧ ∃ ls : List Nat, G'[lr]? = some (.lst (ls.map .ref)) ∧ ls.length = i + 2 ∧ (∀ l ∈ ls, G.length ≤ l ∧ l < G'.length ∧ l ≠ lr) ∧ ∀ (s : Nat) (hs : s < ls.length), 1 ≤ s → G'[ls[s]]? = some (.lst (fL (Rr ps (s - 1)) (ps.length - s + 1)))) (fun r => ∃ s ro b to G4, r = .nx (EnvT lh ni lr s ro b to none) G4 ∧ Ex0 G G4 ∧ RT ps lr (ps.length + 1) G4) (by simp [EnvT]) (by omega) (by omega) (by omega) (by omega) ⟨_, _, _, _, rfl, x03, [L0, L1], a3, rfl, fun l hl => by
      simp only [List.mem_cons, List.not_mem_nil, or_false] at hl
      rcases hl with rfl | rfl <;> omega, fun s hs s1 => by
      have hs : s < 2 := hs
      have : s = 1 := by omega
      subst this
      exact b3⟩ ?_ ?_
    · intro i hi ev G' hI
      obtain ⟨s0, ro, b, to, he, x, ls, r1, r2, r3, r4⟩ := hI
      subst he
      generalize hsi' : (2 : Int) + ((i : Nat) : Int) = si
      have hsi : si = ((i + 2 : Nat) : Int) := by omega
      have hr : RT ps lr (i + 2) G' := ⟨ls, r1, r2, r4⟩
      obtain ⟨G5, hG5⟩ : ∃ G5, G5 = G' ++ [OU.lst []] := ⟨_, rfl⟩
      have x5 : Ex0 G' G5 := by rw [hG5]; exact ex0_push _ _
      have w5 : G5[G'.length]? = some (.lst []) := by rw [hG5]; exact push_at _ _
      have hx := x.1
      have ltr := (List.getElem?_eq_some_iff.mp r1).1
      have lth := (List.getElem?_eq_some_iff.mp hh).1
      obtain ⟨b', t', G6, e6, l6, o6, w6⟩ := rest_in (lh := lh) (lr := lr) (lw := G'.length) (b0 := b) (t0 := to) (p0 := none) h ((x.trans x5).at_ hh) (hr.ex x5) hni hsi (by omega) (by omega) w5 ⟨by omega, by omega⟩ (fun ls' hls l hl => by
        have := x5.at_ r1
        rw [this] at hls
        have hls : ls.map U.ref = ls'.map U.ref := by
          have := Option.some.inj hls
          exact OU.lst.inj this
        have e1 : U.ref l ∈ ls.map U.ref := by rw [hls]; exact List.mem_map_of_mem hl
        obtain ⟨q, hq, hqe⟩ := List.mem_map.mp e1
        cases hqe
        have := (r3 l hq).2.1
        omega)
      have hg5 : G5.length = G'.length + 1 := by rw [hG5]; simp
      have r6 : G6[lr]? = some (.lst (ls.map .ref)) := by rw [o6 lr (by omega) (by omega)]; exact x5.at_ r1
      have ap : mAppend (.ref lr) [.ref G'.length] G6 = .ok .non (G6.set lr (.lst ((ls ++ [G'.length]).map .ref))) := by
        rw [mAppend_ref r6 (by rw [List.length_map]; omega), List.map_append]; rfl
      have il := isLst_ref r6
      have fine : (gNm 3 (.int si) (EnvT lh ni lr s0 ro b to none) G').andThen (EnvT lh ni lr s0 ro b to none) (fun env1 G1 => g__law_rest_2 env1 G1) = .nx (EnvT lh ni lr (some (.int si)) (some (.ref G'.length)) b' t' none) (G6.set lr (.lst ((ls ++ [G'.length]).map .ref))) := by
        rw [gNm_, r_then_ok]
        show g__law_rest_2 (EnvT lh ni lr (some (.int si)) ro b to none) G' = _
        unfold g__law_rest_2
        rw [seq_nx (e' := EnvT lh ni lr (some (.int si)) (some (.ref G'.length)) b to none) (G' := G5) (by simp [EnvT, hG5]), seq_nx e6]
        generalize (ls ++ [G'.length]).map U.ref = zs at ap ⊢
        simp [EnvT, eMeth_, il, ap]
      rw [fine]
      refine ⟨_, _, _, _, rfl, ⟨by simp; omega, fun q hq => ?_⟩, ls ++ [G'.length], set_get r6, by simp [r2], fun l hl => ?_, fun s hs s1 => ?_⟩
      · rw [List.getElem?_set_ne (by omega), o6 q (by omega) (by omega), x5.2 q (by omega)]
        exact x.2 q hq
      · rcases List.mem_append.mp hl with hl | hl
        · have := r3 l hl
          exact ⟨this.1, by simp; omega, this.2.2⟩
        · rw [List.mem_singleton] at hl
          subst hl
          exact ⟨by omega, by simp; omega, by omega⟩
      · by_cases c : s < ls.length
        · rw [List.getElem_append_left c]
          have hm := r3 _ (List.getElem_mem c)
          rw [List.getElem?_set_ne (Ne.symm hm.2.2), o6 _ (by omega) (by omega), x5.2 _ hm.2.1]
          exact r4 s c s1
        · have hs' : s = ls.length := by simp at hs; omega
          subst hs'
          rw [List.getElem_append_right (Nat.le_refl _)]
          simp only [Nat.sub_self, List.getElem_cons_zero]
          rw [List.getElem?_set_ne (by omega), w6, r2]
    · intro ev G' hI
      obtain ⟨s0, ro, b, to, he, x, ls, r1, r2, r3, r4⟩ := hI
      subst he
      exact ⟨s0, ro, b, to, G', rfl, x, ls, r1, by rw [r2]; omega, r4⟩
  obtain ⟨s, ro, b, to, G4, L, x4, r4⟩ := L
  refine ⟨lr, G4, ?_, x4, r4⟩
  unfold g__law_rest
  rw [seq_nx (e' := [some (.ref lh), some (.int ni), none, none, none, none, none, none]) (G' := G) (by simp [bl]), seq_nx (e' := EnvT lh ni lr none none none none none) (G' := G3) (by
    have el : eLst aNil [some (.ref lh), some (.int ni), none, none, none, none, none, none] G = .ok (.ref L0) G1 := by rw [hL0, hG1]; rfl
    have ea : (aCons (eLst aNil) (aCons (eComp [5] (iOfs (aCons (eVar 1) aNil) kRng1) (gNm 5) tYesB (eBin FL.gSub (eBin gIdx (eVar 0) (eVar 1)) (eBin gIdx (eVar 0) (eVar 5)))) aNil)) [some (.ref lh), some (.int ni), none, none, none, none, none, none] G = .ok [.ref L0, .ref L1] G2 := by
      rw [aCons_, el, r_bind_ok, aCons_, e2, hL1]
      rfl
    rw [sAsg_, eLst_, ea]
    rw [hlr, hG3]
    rfl), seq_nx L]
  simp [EnvT]
/-! ### the first cut -/
theorem filt_first (q : Nat → Bool) : ∀ (m j : Nat), j < m → q j = true → (∀ i, i < j → q i = false) → ∃ r, (List.range m).filter q = j :: r
  | 0, j, h, _, _ => by omega
  | m + 1, j, h, h1, h2 => by
    rw [List.range_succ, List.filter_append]
    by_cases c : j < m
    · obtain ⟨r, hr⟩ := filt_first q m j c h1 h2
      rw [hr]
      exact ⟨r ++ ([m].filter q), rfl⟩
    · have e : j = m := by omega
      subst e
      have : (List.range j).filter q = [] := List.filter_eq_nil_iff.mpr fun i hi => by rw [h2 i (List.mem_range.mp hi)]; decide
      rw [this]
      exact ⟨[], by simp [h1]⟩
theorem gre_unique {T : Int} {row : List Int} : ∀ (m b : Nat) (c c' : List Nat), Gre T row m b c → Gre T row m b c' → c = c'
  | 0, b, c, c', h, h' => by
    have h : c = [] := h
    have h' : c' = [] := h'
    rw [h, h']
  | m + 1, b, c, c', ⟨e, r, h1, h2, h3, h4, h5⟩, ⟨e', r', k1, k2, k3, k4, k5⟩ => by
    have he : e = e' := by
      rcases Nat.lt_trichotomy e e' with z | z | z
      · exact absurd h3 (k4 e h2 z)
      · exact z
      · exact absurd k3 (h4 e' k2 z)
    subst he
    rw [h1, k1, gre_unique m e r r' h5 k5]
theorem gre_len {ps : List Int} {t : Int} : ∀ (m b : Nat) (c : List Nat), Gre t ps m b c → c.length = m
  | 0, _, c, h => by
    have h : c = [] := h
    rw [h]; rfl
  | m + 1, b, c, ⟨e, r, hc, _, _, _, h⟩ => by
    rw [hc, List.length_cons, gre_len m e r h]
def tupN (c : List Nat) : U := .tup (ofN c)
def EnvQ (lh lr : Nat) (c top n : Int) (lc : Nat) (at_ : Int) (k le fi : Option U) : Ev := [some (.ref lh), some (.ref lr), some (.int c), some (.int top), some (.int n), some (.ref lc), some (.int at_), k, le, fi, none]
theorem first_spec {ps : List Int} {lh lr s : Nat} {si T : Int} {c : List Nat} {G : Gp} (h : OkC ps) (hh : G[lh]? = some (.lst (fL (Hs ps) (ps.length + 1)))) (hr : RT ps lr (ps.length + 1) G) (h1 : 1 ≤ s) (h2 : s ≤ ps.length) (hs : si = (s : Int)) (hT : T = Rr ps (s - 1) 0) (hc : Gre T ps (s - 1) 0 c) : ∃ G', F__law_first [.ref lh, .ref lr, .int si] G = .ok (tupN c) G' ∧ Ex0 G G' := by
  rw [run__law_first]
  have hn := h.2.1
  have hp := h.ok.pos
  obtain ⟨ni, hni⟩ : ∃ ni : Int, ni = (ps.length : Int) := ⟨_, rfl⟩
  have bl : bLen [.ref lh] G = .ok (.int (ni + 1)) G := by
    rw [bLen_seq (seqU_of hh), fL_len]
    congr 2
    omega
  obtain ⟨l0, j1, j2⟩ := hr.at_ (s := s) (b := 0) (si := si) (bi := 0) h1 (by omega) (by omega) hs rfl
  rw [← hT] at j2
  have hcut0 : Cut T s ps := by
    have := (R_le (row := ps) (T := T) (s - 1) 0 (by omega)).mp (by omega)
    rw [List.drop_zero, show s - 1 + 1 = s by omega] at this
    exact this
  obtain ⟨lc, hlc⟩ : ∃ lc, lc = G.length := ⟨_, rfl⟩
  obtain ⟨G1, hG1⟩ : ∃ G1, G1 = G ++ [OU.lst []] := ⟨_, rfl⟩
  have x1 : Ex0 G G1 := by rw [hG1]; exact ex0_push _ _
  have a1 : G1[lc]? = some (.lst (ofN [])) := by rw [hG1, hlc]; exact push_at _ _
  have L : ∃ at_ k le fi G2, sFor (iOfs (aCons (eBin FL.gSub (eVar 2) (eC (.int 1))) aNil) kRng1) (gNm 7) g__law_first_1 (EnvQ lh lr si T ni lc 0 none none none) G1 = .nx (EnvQ lh lr si T ni lc at_ k le fi) G2 ∧ Ex0 G G2 ∧ G2[lc]? = some (.lst (ofN c)) := by
    refine sFor_rng1 (j := si - 1) (G1 := G1) (fun k ev G' => ∃ (b : Nat) (kk le fi : Option U) (done rest : List Nat), ev = EnvQ lh lr si T ni lc (b : Nat) kk le fi ∧ Ex0 G G' ∧ G'[lc]? = some (.lst (ofN done)) ∧ done.length = k ∧ c = done ++ rest ∧ Gre T ps (s - 1 - k) b rest ∧ Cut T (s - 1 - k + 1) (ps.drop b)) (fun r => ∃ at_ k le fi G2, r = .nx (EnvQ lh lr si T ni lc at_ k le fi) G2 ∧ Ex0 G G2 ∧ G2[lc]? = some (.lst (ofN c))) (by simp [EnvQ]) (by omega) (by omega) ⟨0, _, _, _, [], c, rfl, x1, a1, rfl, rfl, by rw [Nat.sub_zero]; exact hc, by rw [List.drop_zero, show s - 1 - 0 + 1 = s by omega]; exact hcut0⟩ ?_ ?_
    · intro k hk ev G' hI
      obtain ⟨b, kk, le, fi, done, rest, he, x, a, hd, hcr, hg, hct⟩ := hI
      have hm : s - 1 - k = (s - 2 - k) + 1 := by omega
      generalize s - 2 - k = m at hm
      rw [hm] at hg hct
      obtain ⟨e, r2, hre, g1, g2, g3, g4⟩ := hg
      have hel := cut_len _ _ g2
      rw [List.length_drop] at hel
      obtain ⟨ki, hki⟩ : ∃ ki : Int, ki = (k : Int) := ⟨_, rfl⟩
      obtain ⟨bi, hbi⟩ : ∃ bi : Int, bi = (b : Int) := ⟨_, rfl⟩
      obtain ⟨li, hli⟩ : ∃ li : Int, li = ((m + 1 : Nat) : Int) := ⟨_, rfl⟩
      rw [← hki]
      rw [← hbi] at he
      have hle : si - 1 - ki = li := by omega
      -- the places that fit
      obtain ⟨src, c1, hsx⟩ := srcx_rng2 (a := bi + 1) (b := ni - li + 1) (G := G') (by omega) (by omega) (by omega) (by omega)
      let q : Nat → Bool := fun j => decide (max (Hs ps (b + 1 + j) - Hs ps b) (Rr ps m (b + 1 + j)) ≤ T)
      let E1 : Ev := EnvQ lh lr si T ni lc bi (some (.int ki)) (some (.int li)) fi
      obtain ⟨G3, e3, x3, at3⟩ := comp_pure (own := [10]) (fi := iOfs (aCons (eBin gAdd (eVar 6) (eC (.int 1))) (aCons (eBin gAdd (eBin FL.gSub (eVar 4) (eVar 8)) (eC (.int 1))) aNil)) kRng2) (G := G') (G1 := G') (gf := gNm 10) (ft := bVal (eBin gLe (eCall bMax2 (aCons (eBin FL.gSub (eBin gIdx (eVar 0) (eVar 10)) (eBin gIdx (eVar 0) (eVar 6))) (aCons (eBin gIdx (eBin gIdx (eVar 1) (eVar 8)) (eVar 10)) aNil))) (eVar 3))) (fe := eVar 10) (env := E1) (ys := List.range (ni - li + 1 - (bi + 1)).toNat) (g := fun j => U.int (bi + 1 + (j : Nat))) q (fun j => U.int (bi + 1 + (j : Nat))) (iOfs_ok (us := [.int (bi + 1), .int (ni - li + 1)]) (by simp [E1, EnvQ]) c1) hsx (by simp; omega) (fun j hj G4 x4 => by
        have hj' : j < (ni - li + 1 - (bi + 1)).toNat := by simpa using hj
        rw [List.getElem_range]
        obtain ⟨pi, hpi⟩ : ∃ pi : Int, pi = bi + 1 + (j : Int) := ⟨_, rfl⟩
        have i1 := fL_at (e := b + 1 + j) (i := pi) ((x.trans x4).at_ hh) (by omega) (by omega)
        have i2 := fL_at (e := b) (i := bi) ((x.trans x4).at_ hh) (by omega) (by omega)
        obtain ⟨l, i3, i4⟩ := (hr.ex (x.trans x4)).at_ (s := m + 1) (b := b + 1 + j) (si := li) (bi := pi) (by omega) (by omega) (by omega) (by omega) (by omega)
        rw [Nat.add_sub_cancel] at i4
        rw [← hpi]
        have hq : q j = decide (max (Hs ps (b + 1 + j) - Hs ps b) (Rr ps m (b + 1 + j)) ≤ T) := rfl
        rw [hq]
        generalize Hs ps (b + 1 + j) = z1 at i1 ⊢
        generalize Hs ps b = z2 at i2 ⊢
        generalize Rr ps m (b + 1 + j) = z3 at i4 ⊢
        exact ⟨_, rfl, by simp [E1, EnvQ, wipeE, i1, i2, i3, i4], fun _ => by simp [E1, EnvQ, wipeE]⟩)
      have hfit : ∃ r, (List.range (ni - li + 1 - (bi + 1)).toNat).filter q = (e - b - 1) :: r := by
        refine filt_first q _ _ (by omega) (decide_eq_true ?_) (fun i hi => decide_eq_false fun z => ?_)
        · rw [show b + 1 + (e - b - 1) = e by omega]
          have z1 := (R_le (row := ps) (T := T) m e (by omega)).mpr g2
          obtain ⟨e0, q1, q2, q3, q4⟩ := hct
          rw [List.drop_drop] at q4
          have hmin : e ≤ b + e0 := by
            by_cases z : b + e0 < e
            · exact absurd q4 (g3 (b + e0) (by omega) z)
            · omega
          have h5 := Hs_mid (row := ps) (b := b) (e := b + e0) (by omega)
          rw [show b + e0 - b = e0 by omega] at h5
          have h6 := Hs_mono hp hmin
          omega
        · have z2 := (R_le (row := ps) (T := T) m (b + 1 + i) (by omega)).mp (by omega)
          exact g3 (b + 1 + i) (by omega) (by omega) z2
      obtain ⟨fr, hfr⟩ := hfit
      rw [hfr] at at3
      obtain ⟨ei, hei⟩ : ∃ ei : Int, ei = (e : Int) := ⟨_, rfl⟩
      have i0 : gIdx (.ref G'.length) (.int 0) G3 = .ok (.int ei) G3 := gIdx_ref at3 (by
        rw [List.map_cons]
        have : bi + 1 + ((e - b - 1 : Nat) : Int) = ei := by omega
        rw [this]
        exact atI_pos (Int.le_refl 0) rfl)
      have a3 := x3.at_ a
      have ap : mAppend (.ref lc) [.int ei] G3 = .ok .non (G3.set lc (.lst (ofN (done ++ [e])))) := by
        rw [mAppend_ref a3 (by simp [ofN]; omega)]
        simp [ofN, hei]
      have il := isLst_ref a3
      have fine : (gNm 7 (.int ki) (EnvQ lh lr si T ni lc bi kk le fi) G').andThen (EnvQ lh lr si T ni lc bi kk le fi) (fun env1 G1 => g__law_first_1 env1 G1) = .nx (EnvQ lh lr si T ni lc ei (some (.int ki)) (some (.int li)) (some (.ref G'.length))) (G3.set lc (.lst (ofN (done ++ [e])))) := by
        rw [gNm_, r_then_ok]
        show g__law_first_1 (EnvQ lh lr si T ni lc bi (some (.int ki)) le fi) G' = _
        unfold g__law_first_1
        rw [seq_nx (e' := E1) (G' := G') (by simp [E1, EnvQ, hle]), seq_nx (e' := EnvQ lh lr si T ni lc bi (some (.int ki)) (some (.int li)) (some (.ref G'.length))) (G' := G3) (by rw [sAsg_, e3]; rfl), seq_nx (e' := EnvQ lh lr si T ni lc ei (some (.int ki)) (some (.int li)) (some (.ref G'.length))) (G' := G3) (by simp [EnvQ, i0])]
        simp [EnvQ, eMeth_, il, ap]
      subst he
      rw [fine]
      refine ⟨e, _, _, _, done ++ [e], r2, by rw [hei], ex0_set (x.trans x3) (by omega) _, set_get a3, by simp [hd], by rw [hcr, hre]; simp, by rw [show s - 1 - (k + 1) = m by omega]; exact g4, by rw [show s - 1 - (k + 1) + 1 = m + 1 by omega]; exact g2⟩
    · intro ev G' hI
      obtain ⟨b, kk, le, fi, done, rest, he, x, a, hd, hcr, hg, hct⟩ := hI
      subst he
      rw [show s - 1 - (si - 1).toNat = 0 by omega] at hg
      have hr : rest = [] := hg
      rw [hr, List.append_nil] at hcr
      rw [← hcr] at a
      exact ⟨_, _, _, _, G', rfl, x, a⟩
  obtain ⟨at_, k, le, fi, G2, L, x2, a2⟩ := L
  have bt := bTuple_seq (seqU_of a2)
  refine ⟨G2, ?_, x2⟩
  unfold g__law_first
  rw [seq_nx (e' := [some (.ref lh), some (.ref lr), some (.int si), some (.int T), none, none, none, none, none, none, none]) (G' := G) (by simp [j1, j2]), seq_nx (e' := [some (.ref lh), some (.ref lr), some (.int si), some (.int T), some (.int ni), none, none, none, none, none, none]) (G' := G) (by simp [bl]), seq_nx (e' := [some (.ref lh), some (.ref lr), some (.int si), some (.int T), some (.int ni), some (.ref lc), none, none, none, none, none]) (G' := G1) (by simp [hG1, hlc]), seq_nx (e' := EnvQ lh lr si T ni lc 0 none none none) (G' := G1) (by simp [EnvQ]), seq_nx L]
  simp [EnvQ, bt, tupN]
end K09

set_option Elab.async false
set_option linter.all false
set_option maxRecDepth 100000
set_option maxHeartbeats 4000000
set_option autoImplicit false
namespace K09
open PySem PySem.Spec L2 FL

/-! ### the paper out of the heaps -/
def EnvY (lh : Nat) (c T : Int) (lf : Nat) (b : Int) (k e p : Option U) : Ev := [some (.ref lh), some (.int c), some (.int T), some (.ref lf), some (.int b), k, e, p]
theorem paper_in {ps : List Int} {lh lf b k : Nat} {c T bi : Int} {kk p0 : Option U} {G : Gp} (h : OkC ps) (hh : G[lh]? = some (.lst (fL (Hs ps) (ps.length + 1)))) (hbi : bi = (b : Int)) (hk : Sh T (ps.drop b) k) (k1 : 1 ≤ k) :
    ∃ p', sFor (iOfs (aCons (eCall bLen (aCons (eVar 0) aNil)) aNil) kRng1) (gNm 7) g__law_paper_1 (EnvY lh c T lf bi kk (some (.int (bi + 1))) p0) G = .nx (EnvY lh c T lf bi kk (some (.int ((b + k : Nat) : Int))) p') G := by
  have hn := h.2.1
  have hl := hk.1
  rw [List.length_drop] at hl
  obtain ⟨ni, hni⟩ : ∃ ni : Int, ni = (ps.length : Int) := ⟨_, rfl⟩
  have bl : bLen [.ref lh] G = .ok (.int (ni + 1)) G := by
    rw [bLen_seq (seqU_of hh), fL_len]
    congr 2
    omega
  refine sFor_rng1 (j := ni + 1) (G1 := G) (fun i ev G' => G' = G ∧ ∃ p, ev = EnvY lh c T lf bi kk (some (.int ((b + min (i + 1) k : Nat) : Int))) p) (fun r => ∃ p', r = .nx (EnvY lh c T lf bi kk (some (.int ((b + k : Nat) : Int))) p') G) (by simp [EnvY, bl]) (by omega) (by omega) ⟨rfl, p0, by rw [show min (0 + 1) k = 1 by omega, show ((b + 1 : Nat) : Int) = bi + 1 by omega]⟩ ?_ ?_
  · intro i hi ev G' hI
    obtain ⟨hG, p, he⟩ := hI
    subst hG
    obtain ⟨q, hq⟩ : ∃ q, q = min (i + 1) k := ⟨_, rfl⟩
    rw [← hq] at he
    obtain ⟨ei, hei⟩ : ∃ ei : Int, ei = ((b + q : Nat) : Int) := ⟨_, rfl⟩
    rw [← hei] at he
    obtain ⟨ii, hii⟩ : ∃ ii : Int, ii = (i : Int) := ⟨_, rfl⟩
    rw [← hii]
    have i1 := fL_at (e := b + q) (i := ei) hh (by omega) hei
    have i2 := fL_at (e := b) (i := bi) hh (by omega) hbi
    have hm := Hs_mid (row := ps) (b := b) (e := b + q) (by omega)
    rw [show b + q - b = q by omega] at hm
    generalize Hs ps (b + q) = z1 at i1 hm
    generalize Hs ps b = z2 at i2 hm
    by_cases c1 : ei < ni
    · by_cases c2 : z1 - z2 < T
      · have hqk : q < k := by
          by_cases z : q = k
          · have := hk.2.1; rw [hm, z] at c2; omega
          · omega
        have fine : (gNm 7 (.int ii) (EnvY lh c T lf bi kk (some (.int ei)) p) G').andThen (EnvY lh c T lf bi kk (some (.int ei)) p) (fun env1 G1 => g__law_paper_1 env1 G1) = .nx (EnvY lh c T lf bi kk (some (.int (ei + 1))) (some (.int ii))) G' := by
          simp [EnvY, g__law_paper_1, bl, c1, i1, i2, c2]
        subst he
        rw [fine]
        refine ⟨rfl, some (.int ii), ?_⟩
        have : ei + 1 = ((b + min (i + 1 + 1) k : Nat) : Int) := by omega
        rw [this]
      · have hqk : q = k := by
          by_cases z : q < k
          · have := hk.2.2 q z; omega
          · omega
        have fine : (gNm 7 (.int ii) (EnvY lh c T lf bi kk (some (.int ei)) p) G').andThen (EnvY lh c T lf bi kk (some (.int ei)) p) (fun env1 G1 => g__law_paper_1 env1 G1) = .nx (EnvY lh c T lf bi kk (some (.int ei)) (some (.int ii))) G' := by
          simp [EnvY, g__law_paper_1, bl, c1, i1, i2, c2]
        subst he
        rw [fine]
        refine ⟨rfl, some (.int ii), ?_⟩
        have : ei = ((b + min (i + 1 + 1) k : Nat) : Int) := by omega
        rw [this]
    · have fine : (gNm 7 (.int ii) (EnvY lh c T lf bi kk (some (.int ei)) p) G').andThen (EnvY lh c T lf bi kk (some (.int ei)) p) (fun env1 G1 => g__law_paper_1 env1 G1) = .nx (EnvY lh c T lf bi kk (some (.int ei)) (some (.int ii))) G' := by
        simp [EnvY, g__law_paper_1, bl, c1]
      subst he
      rw [fine]
      refine ⟨rfl, some (.int ii), ?_⟩
      have : ei = ((b + min (i + 1 + 1) k : Nat) : Int) := by omega
      rw [this]
  · intro ev G' hI
    obtain ⟨hG, p, he⟩ := hI
    subst hG
    subst he
    refine ⟨p, ?_⟩
    rw [show min ((ni + 1).toNat + 1) k = k by omega]
theorem paper_spec {ps : List Int} {lh s : Nat} {si T : Int} {c : List (Nat × Nat)} {G : Gp} (h : OkC ps) (hh : G[lh]? = some (.lst (fL (Hs ps) (ps.length + 1)))) (hs : si = (s : Int)) (h2 : s ≤ ps.length) (hc : Chn T ps s 0 c) : ∃ G', F__law_paper [.ref lh, .int si, .int T] G = .ok (.tup (c.map prU)) G' ∧ Ex0 G G' := by
  rw [run__law_paper]
  have hn := h.2.1
  obtain ⟨lf, hlf⟩ : ∃ lf, lf = G.length := ⟨_, rfl⟩
  obtain ⟨G1, hG1⟩ : ∃ G1, G1 = G ++ [OU.lst []] := ⟨_, rfl⟩
  have x1 : Ex0 G G1 := by rw [hG1]; exact ex0_push _ _
  have a1 : G1[lf]? = some (.lst []) := by rw [hG1, hlf]; exact push_at _ _
  have L : ∃ b k e p G2, sFor (iOfs (aCons (eVar 1) aNil) kRng1) (gNm 5) g__law_paper_2 (EnvY lh si T lf 0 none none none) G1 = .nx (EnvY lh si T lf b k e p) G2 ∧ Ex0 G G2 ∧ G2[lf]? = some (.lst (c.map prU)) := by
    refine sFor_rng1 (j := si) (G1 := G1) (fun j ev G' => ∃ (b : Nat) (k e p : Option U) (done rest : List (Nat × Nat)), ev = EnvY lh si T lf (b : Nat) k e p ∧ Ex0 G G' ∧ G'[lf]? = some (.lst (done.map prU)) ∧ done.length = j ∧ c = done ++ rest ∧ Chn T ps (s - j) b rest) (fun r => ∃ b k e p G2, r = .nx (EnvY lh si T lf b k e p) G2 ∧ Ex0 G G2 ∧ G2[lf]? = some (.lst (c.map prU))) (by simp [EnvY]) (by omega) (by omega) ⟨0, _, _, _, [], c, rfl, x1, a1, rfl, rfl, hc⟩ ?_ ?_
    · intro j hj ev G' hI
      obtain ⟨b, k0, e, p, done, rest, he, x, a, hd, hcr, hch⟩ := hI
      obtain ⟨m, hm⟩ : ∃ m, s - j = m + 1 := ⟨s - j - 1, by omega⟩
      rw [hm] at hch
      obtain ⟨k, r2, hr, k1, hk, hch2⟩ := hch
      obtain ⟨bi, hbi⟩ : ∃ bi : Int, bi = ((b : Nat) : Int) := ⟨_, rfl⟩
      rw [← hbi] at he
      obtain ⟨ji, hji⟩ : ∃ ji : Int, ji = (j : Int) := ⟨_, rfl⟩
      rw [← hji]
      have ltf := (List.getElem?_eq_some_iff.mp a).1
      obtain ⟨p', e3⟩ := paper_in (lf := lf) (c := si) (kk := some (.int ji)) (p0 := p) h (x.at_ hh) hbi hk k1
      obtain ⟨ei, hei⟩ : ∃ ei : Int, ei = ((b + k : Nat) : Int) := ⟨_, rfl⟩
      rw [← hei] at e3
      have ap : mAppend (.ref lf) [.tup [.int bi, .int ei]] G' = .ok .non (G'.set lf (.lst ((done ++ [(b, b + k)]).map prU))) := by
        rw [mAppend_ref a (by rw [List.length_map]; omega), List.map_append, hbi, hei]; rfl
      have il := isLst_ref a
      have fine : (gNm 5 (.int ji) (EnvY lh si T lf bi k0 e p) G').andThen (EnvY lh si T lf bi k0 e p) (fun env1 G1 => g__law_paper_2 env1 G1) = .nx (EnvY lh si T lf (ei - 1) (some (.int ji)) (some (.int ei)) p') (G'.set lf (.lst ((done ++ [(b, b + k)]).map prU))) := by
        rw [gNm_, r_then_ok]
        show g__law_paper_2 (EnvY lh si T lf bi (some (.int ji)) e p) G' = _
        unfold g__law_paper_2
        rw [seq_nx (e' := EnvY lh si T lf bi (some (.int ji)) (some (.int (bi + 1))) p) (G' := G') (by simp [EnvY]), seq_nx e3]
        simp [EnvY, eMeth_, il, ap]
      subst he
      rw [fine]
      refine ⟨b + k - 1, _, _, _, done ++ [(b, b + k)], r2, by rw [show ((b + k - 1 : Nat) : Int) = ei - 1 by omega], ex0_set x (by omega) _, set_get a, by simp [hd], by rw [hcr, hr]; simp, by rw [show s - (j + 1) = m by omega]; exact hch2⟩
    · intro ev G' hI
      obtain ⟨b, k0, e, p, done, rest, he, x, a, hd, hcr, hch⟩ := hI
      subst he
      rw [show s - si.toNat = 0 by omega] at hch
      have hr : rest = [] := hch
      rw [hr, List.append_nil] at hcr
      rw [← hcr] at a
      exact ⟨_, _, _, _, G', rfl, x, a⟩
  obtain ⟨b, k, e, p, G2, L, x2, a2⟩ := L
  have bt := bTuple_seq (seqU_of a2)
  refine ⟨G2, ?_, x2⟩
  unfold g__law_paper
  rw [seq_nx (e' := [some (.ref lh), some (.int si), some (.int T), some (.ref lf), none, none, none, none]) (G' := G1) (by simp [hG1, hlf]), seq_nx (e' := EnvY lh si T lf 0 none none none) (G' := G1) (by simp [EnvY]), seq_nx L]
  simp [EnvY, bt]
/-! ### the paper holds, and not above -/
theorem chn_len {T : Int} {row : List Int} : ∀ (j b : Nat) (c : List (Nat × Nat)), Chn T row j b c → c.length = j
  | 0, _, c, h => by
    have h : c = [] := h
    rw [h]; rfl
  | j + 1, b, c, ⟨k, rest, hc, _, _, h⟩ => by
    rw [hc, List.length_cons, chn_len j _ rest h]
theorem chn_at {T : Int} {row : List Int} : ∀ (j b : Nat) (c : List (Nat × Nat)), Chn T row j b c → ∀ (i : Nat) (hi : i < c.length), PairIn row T (prU c[i]) ∧ (i = 0 → c[i].1 = b) ∧ ∀ (h0 : 0 < i), c[i].1 = (c[i - 1]'(by omega)).2 - 1
  | 0, _, c, h, i, hi => by
    have h : c = [] := h
    subst h
    simp at hi
  | j + 1, b, c, ⟨k, rest, hc, k1, hk, h⟩, i, hi => by
    subst hc
    have hl := hk.1
    rw [List.length_drop] at hl
    match i, hi with
    | 0, _ =>
      refine ⟨⟨(b : Nat), ((b + k : Nat) : Int), rfl, by omega, by omega, by omega, ?_⟩, fun _ => rfl, fun h0 => absurd h0 (Nat.lt_irrefl 0)⟩
      rw [cutU_mid row rfl rfl (by omega) (by omega), show b + k - b = k by omega]
      exact hk.2.1
    | i + 1, hi =>
      have hi' : i < rest.length := by simpa using hi
      obtain ⟨h1, h2, h3⟩ := chn_at j _ rest h i hi'
      refine ⟨h1, fun z => by omega, fun _ => ?_⟩
      show rest[i].1 = _
      by_cases c0 : i = 0
      · subst c0
        have := h2 rfl
        simpa using this
      · have := h3 (by omega)
        rw [this]
        simp only [Nat.add_sub_cancel]
        congr 1
        rw [List.getElem_cons]
        rw [dif_neg (by omega)]
theorem chn_judge {ps : List Int} {s : Nat} {T : Int} {c : List (Nat × Nat)} (hc : Chn T ps s 0 c) : Judge ps s T (.tup (c.map prU)) := by
  have hl := chn_len _ _ _ hc
  refine ⟨_, rfl, by rw [List.length_map]; exact hl, fun i hi => ?_⟩
  have hi' : i < c.length := by simpa using hi
  obtain ⟨h1, h2, h3⟩ := chn_at _ _ _ hc i hi'
  refine ⟨prU c[i], by rw [List.getElem?_map, List.getElem?_eq_getElem hi']; rfl, h1, ?_⟩
  match i, hi', h1, h2, h3 with
  | 0, hi', h1, h2, h3 =>
    show (1 : Int) - 1 ≤ ((c[0].1 : Nat) : Int)
    omega
  | i + 1, hi', h1, h2, h3 =>
    have hp : prevE (c.map prU) (i + 1) = ((c[i].2 : Nat) : Int) := prevE_succ (b := ((c[i].1 : Nat) : Int)) (by rw [List.getElem?_map, List.getElem?_eq_getElem (by omega)]; rfl)
    rw [hp]
    have := h3 (by omega)
    simp only [Nat.add_sub_cancel] at this
    show ((c[i].2 : Nat) : Int) - 1 ≤ ((c[i + 1].1 : Nat) : Int)
    rw [this]
    omega
theorem chn_no {T : Int} {row : List Int} (hp : PosR row) : ∀ (j b : Nat) (c : List (Nat × Nat)) (b' : Nat), Chn T row j b c → b < row.length → b' ≤ b → (∀ p ∈ c, T < Hs row p.2 - Hs row p.1) → ¬ Cut T j (row.drop b')
  | 0, b, c, b', _, hb, hb', _, hc => by
    have hc : row.drop b' = [] := hc
    have := congrArg List.length hc
    simp only [List.length_drop, List.length_nil] at this
    omega
  | j + 1, b, c, b', ⟨k, rest, hcc, k1, hk, h⟩, hb, hb', hs, ⟨e, e1, e2, e3, e4⟩ => by
    subst hcc
    have hl := hk.1
    rw [List.length_drop] at hl
    rw [List.length_drop] at e2
    rw [List.drop_drop] at e4
    have hs0 := hs (b, b + k) List.mem_cons_self
    have hm := Hs_mid (row := row) (b := b') (e := b' + e) (by omega)
    rw [show b' + e - b' = e by omega] at hm
    have hlt : b' + e < b + k := by
      apply Nat.lt_of_not_le
      intro z
      have h1 := Hs_mono hp (b := b + k) (e := b' + e) z
      have h2 := Hs_mono hp (b := b') (e := b) hb'
      simp only at hs0
      omega
    exact chn_no hp j (b + k - 1) rest (b' + e) h (by omega) (by omega) (fun p hp' => hs p (List.mem_cons_of_mem _ hp')) e4
theorem chn_not_above {ps : List Int} {s : Nat} {T : Int} {c : List (Nat × Nat)} (hp : PosR ps) (hn : ps ≠ []) (hc : Chn T ps s 0 c) (hcut : Cut T s ps) : ¬ Judge ps s (T + 1) (.tup (c.map prU)) := by
  rintro ⟨xs, e, hl, hx⟩
  injection e with e
  subst e
  refine chn_no hp s 0 c 0 hc (List.length_pos_iff.mpr hn) (Nat.le_refl _) (fun p hpc => ?_) (by rw [List.drop_zero]; exact hcut)
  obtain ⟨i, hi, hie⟩ := List.getElem_of_mem hpc
  obtain ⟨x, h1, h2, _⟩ := hx i (by rw [List.length_map]; exact hi)
  rw [List.getElem?_map, List.getElem?_eq_getElem hi, hie] at h1
  have h1 : prU p = x := Option.some.inj h1
  subst h1
  obtain ⟨b, e, h3, h4, h5, h6, h7⟩ := h2
  cases h3
  rw [cutU_mid ps rfl rfl (by omega) (by omega), ← Hs_mid (by omega)] at h7
  omega
/-! ### how many -/
theorem need_pos {row : List Int} {t : Int} (hp : PosR row) (hn : row ≠ []) : 1 ≤ need row t := by
  match row, hp, hn with
  | c :: r, hp, _ =>
    have := hp c List.mem_cons_self
    unfold need
    rw [gr_cons, if_neg (by omega)]
    omega
theorem need_len {row : List Int} {t : Int} (h : ∀ c ∈ row, 1 ≤ c ∧ c ≤ t) : need row t ≤ row.length := by
  have e : (row.map fun c => [c]).flatten = row := by
    clear h
    induction row with
    | nil => rfl
    | cons c r ih => simp [ih]
  have := need_le (top := t) (ps := row.map fun c => [c]) (fun p hp => by
    obtain ⟨c, hc, rfl⟩ := List.mem_map.mp hp
    exact ⟨List.cons_ne_nil _ _, by simpa using (h c hc).2⟩) (by rw [e]; exact fun c hc => (h c hc).1)
  rw [e, List.length_map] at this
  exact this
structure Qc (ps : List Int) (s : Nat) (si T : Int) (c : List Nat) (d : List (Nat × Nat)) : Prop where
  ok : OkC ps
  s1 : 1 ≤ s
  s2 : s ≤ ps.length
  hs : si = (s : Int)
  hT : T = Rr ps (s - 1) 0
  top : IsTop ps s T
  gre : Gre T ps (s - 1) 0 c
  ch : Chn T ps s 0 d
theorem qc_ex {ps : List Int} {s : Nat} {si : Int} (ok : OkC ps) (h1 : 1 ≤ s) (h2 : s ≤ ps.length) (hs : si = (s : Int)) : ∃ T c d, Qc ps s si T c d := by
  have ht := R_isTop ok.ok.pos ok.ok.ne h1 h2
  have hT1 : 1 ≤ Rr ps (s - 1) 0 := by
    have := ht.1
    have := ok.ok.pos _ (maxL_spec ok.ok.ne).1
    omega
  obtain ⟨d, hd⟩ := chn_top ok.ok.pos ok.ok.ne ht hT1
  obtain ⟨T', c, _, hT', hg⟩ := best_ok (u := .tup (ps.map .int)) (G := []) (.inl rfl) ok.ok h1 h2
  rw [isTop_unique hT' ht] at hg
  exact ⟨_, c, d, ok, h1, h2, hs, rfl, ht, hg, hd⟩
theorem pdn_up9 {c : List Nat} (h : c.length ≤ 1000) : PDn 39 (tupN c) := ⟨by unfold ofN; rw [List.length_map]; exact h, fun x hx => by
  obtain ⟨p, _, rfl⟩ := List.mem_map.mp hx
  trivial⟩
theorem pdn_pa {c : List (Nat × Nat)} (h : c.length ≤ 1000) : PDn 39 (.tup (c.map prU)) := ⟨by rw [List.length_map]; exact h, fun x hx => by
  obtain ⟨p, _, rfl⟩ := List.mem_map.mp hx
  exact ⟨by simp, fun y hy => by
    simp only [List.mem_cons, List.not_mem_nil, or_false] at hy
    rcases hy with rfl | rfl <;> trivial⟩⟩
theorem valg_pa {c : List (Nat × Nat)} {G : Gp} (h : c.length ≤ 1000) : ValG (.tup (c.map prU)) G := by
  refine Or.inl ⟨_, rfl, by rw [List.length_map]; exact h, fun x hx => ?_⟩
  obtain ⟨q, _, rfl⟩ := List.mem_map.mp hx
  exact Or.inl ⟨_, rfl, by simp, fun y hy => by
    simp only [List.mem_cons, List.not_mem_nil, or_false] at hy
    rcases hy with rfl | rfl <;> exact noRef_int _⟩
def EnvX (lp lh lr : Nat) (si T : Int) (cu : U) (lo : Nat) (b f p : Option U) : Ev := [some (.ref lp), some (.ref lh), some (.ref lr), some (.int si), some (.int T), some cu, some (.ref lo), b, f, p, none]
theorem few_in {ps : List Int} {lp lh lr lo : Nat} {si T bd : Int} {cu : U} {b f p : Option U} {G : Gp} (ok : OkC ps) (hh : G[lh]? = some (.lst (fL (Hs ps) (ps.length + 1)))) (hr : RT ps lr (ps.length + 1) G) (ho : G[lo]? = some (.lst (ps.map .int))) (b1 : maxL ps ≤ bd) (b2 : bd ≤ 20000) :
    ∃ f' G', g__law_cut_right_1 (EnvX lp lh lr si T cu lo (some (.int bd)) f p) G = .nx (EnvX lp lh lr si T cu lo (some (.int bd)) f' p) G' ∧ Ex0 G G' := by
  have hn := ok.2.1
  have hpos := ok.ok.pos
  have hall : ∀ c ∈ ps, 1 ≤ c ∧ c ≤ bd := posR_le hpos ok.ok.ne b1
  have n1 := need_pos (t := bd) hpos ok.ok.ne
  have n2 := need_len hall
  obtain ⟨ni, hni⟩ : ∃ ni : Int, ni = (ps.length : Int) := ⟨_, rfl⟩
  have bl : bLen [.ref lh] G = .ok (.int (ni + 1)) G := by
    rw [bLen_seq (seqU_of hh), fL_len]
    congr 2
    omega
  obtain ⟨one, hone⟩ : ∃ one : Int, one = 1 := ⟨_, rfl⟩
  obtain ⟨src, c1, hsx⟩ := srcx_rng2 (a := one) (b := ni + 1) (G := G) (by omega) (by omega) (by omega) (by omega)
  let q : Nat → Bool := fun j => decide (Rr ps j 0 ≤ bd)
  let E1 : Ev := EnvX lp lh lr si T cu lo (some (.int bd)) f p
  obtain ⟨G3, e3, x3, at3⟩ := comp_pure (own := [10]) (fi := iOfs (aCons (eC (.int 1)) (aCons (eCall bLen (aCons (eVar 1) aNil)) aNil)) kRng2) (G := G) (G1 := G) (gf := gNm 10) (ft := bVal (eBin gLe (eBin gIdx (eBin gIdx (eVar 2) (eVar 10)) (eC (.int 0))) (eVar 7))) (fe := eVar 10) (env := E1) (ys := List.range (ni + 1 - one).toNat) (g := fun j => U.int (one + (j : Nat))) q (fun j => U.int (one + (j : Nat))) (iOfs_ok (us := [.int one, .int (ni + 1)]) (by rw [hone]; simp [E1, EnvX, bl]) c1) hsx (by simp; omega) (fun j hj G4 x4 => by
    have hj' : j < (ni + 1 - one).toNat := by simpa using hj
    rw [List.getElem_range]
    obtain ⟨pi, hpi⟩ : ∃ pi : Int, pi = one + (j : Int) := ⟨_, rfl⟩
    obtain ⟨l, i3, i4⟩ := (hr.ex x4).at_ (s := j + 1) (b := 0) (si := pi) (bi := 0) (by omega) (by omega) (by omega) (by omega) rfl
    rw [Nat.add_sub_cancel] at i4
    rw [← hpi]
    have hq : q j = decide (Rr ps j 0 ≤ bd) := rfl
    rw [hq]
    generalize Rr ps j 0 = z3 at i4 ⊢
    exact ⟨_, rfl, by simp [E1, EnvX, wipeE, i3, i4], fun _ => by simp [E1, EnvX, wipeE]⟩)
  have key : ∀ j, j < ps.length → (Rr ps j 0 ≤ bd ↔ need ps bd ≤ j + 1) := fun j hj => by
    rw [R_le j 0 (by omega), List.drop_zero, cut_iff hall]
    omega
  obtain ⟨fr, hfr⟩ : ∃ r, (List.range (ni + 1 - one).toNat).filter q = (need ps bd - 1) :: r := by
    refine filt_first q _ _ (by omega) (decide_eq_true ((key _ (by omega)).mpr (by omega))) (fun i hi => decide_eq_false fun z => ?_)
    have := (key i (by omega)).mp z
    omega
  rw [hfr] at at3
  obtain ⟨nd, hnd⟩ : ∃ nd : Int, nd = ((need ps bd : Nat) : Int) := ⟨_, rfl⟩
  have i0 : gIdx (.ref G.length) (.int 0) G3 = .ok (.int nd) G3 := gIdx_ref at3 (by
    rw [List.map_cons]
    have : one + ((need ps bd - 1 : Nat) : Int) = nd := by omega
    rw [this]
    exact atI_pos (Int.le_refl 0) rfl)
  have fo := fewest_ok (.inr ⟨lo, rfl, x3.at_ ho⟩ : isSeq (.ref lo) (ps.map .int) G3) ok.ok b1 b2
  rw [← hnd] at fo
  have ss := same_spec 39 (.int nd) G3 trivial
  refine ⟨some (.int nd), G3, ?_, x3⟩
  unfold g__law_cut_right_1
  rw [seq_nx (e' := EnvX lp lh lr si T cu lo (some (.int bd)) (some (.int nd)) p) (G' := G3) (by
    rw [sAsg_, eBin_, e3]
    simp only [r_bind_ok, eC_, i0, r_then_ok, gNm_]
    rfl)]
  simp [EnvX, fo, ss]
theorem cut_right {ps : List Int} {lp lh lr s : Nat} {si T : Int} {c : List Nat} {d : List (Nat × Nat)} {G : Gp} (q : Qc ps s si T c d) (hp : G[lp]? = some (.lst (ps.map .int))) (hh : G[lh]? = some (.lst (fL (Hs ps) (ps.length + 1)))) (hr : RT ps lr (ps.length + 1) G) : ∃ G', F__law_cut_right [.ref lp, .ref lh, .ref lr, .int si] G = .ok (.bl true) G' ∧ Ex0 G G' := by
  rw [run__law_cut_right]
  have ok := q.ok
  have hn := ok.2.1
  have s1 := q.s1
  have s2 := q.s2
  have hs := q.hs
  obtain ⟨l0, j1, j2⟩ := hr.at_ (s := s) (b := 0) (si := si) (bi := 0) s1 (by omega) (by omega) hs rfl
  rw [← q.hT] at j2
  obtain ⟨G1, e1, x1⟩ := first_spec ok hh hr s1 s2 hs q.hT q.gre
  have hcl := gre_len _ _ _ q.gre
  have p1 := x1.at_ hp
  have bl1 : bList [.ref lp] G1 = .ok (.ref G1.length) (G1 ++ [.lst (ps.map .int)]) := bList_seq (seqU_of p1)
  obtain ⟨lo, hlo⟩ : ∃ lo, lo = G1.length := ⟨_, rfl⟩
  obtain ⟨G2, hG2⟩ : ∃ G2, G2 = G1 ++ [OU.lst (ps.map .int)] := ⟨_, rfl⟩
  have x2 : Ex0 G1 G2 := by rw [hG2]; exact ex0_push _ _
  have o2 : G2[lo]? = some (.lst (ps.map .int)) := by rw [hG2, hlo]; exact push_at _ _
  rw [← hG2, ← hlo] at bl1
  -- best cuts
  have bst : ∀ (u : U) (G' : Gp), isSeq u (ps.map .int) G' → ∃ G'', F_best_cut [u, .int si] G' = .ok (tupN c) G'' ∧ Ex0 G' G'' := fun u G' hu => by
    obtain ⟨T', c', e, hT', hg⟩ := best_ok hu ok.ok s1 s2
    rw [isTop_unique hT' q.top] at hg
    rw [gre_unique _ _ _ _ hg q.gre, ← hs] at e
    exact ⟨_, e, ex0_push _ _⟩
  obtain ⟨G3, e3, x3⟩ := bst _ G2 (.inr ⟨lo, rfl, o2⟩)
  have sc : ∀ G', F__law_same 40 [tupN c, tupN c] G' = .ok (.bl true) G' := fun G' => same_spec 39 _ G' (pdn_up9 (by omega))
  have p3 := (x2.trans x3).at_ p1
  have bt3 : bTuple [.ref lp] G3 = .ok (.tup (ps.map .int)) G3 := bTuple_seq (seqU_of p3)
  obtain ⟨G4, e4, x4⟩ := bst _ G3 (.inl rfl)
  have gk : gK 0 2 [1, 0] ([] : List U) [.int si, .tup (ps.map .int)] = [.tup (ps.map .int), .int si] := rfl
  have o4 := (x3.trans x4).at_ o2
  have p4 := x4.at_ p3
  -- least top
  obtain ⟨T', e5, hT'⟩ := least_ok (.inr ⟨lo, rfl, o4⟩ : isSeq (.ref lo) (ps.map .int) G4) ok.ok s1 s2
  rw [isTop_unique hT' q.top, ← hs] at e5
  have sT : F__law_same 40 [.int T, .int T] G4 = .ok (.bl true) G4 := same_spec 39 _ G4 trivial
  have eq4 : FL.eqU G4 (.ref lo) (.ref lp) = some true := by rw [eqU_refs o4 p4]; simp
  have bm4 : bMax [.ref lp] G4 = .ok (.int (maxL ps)) G4 := bInts_seq (seqU_of p4) (fun z => ok.ok.ne z.2)
  have x04 : Ex0 G G4 := (((x1.trans x2).trans x3).trans x4)
  have m20 : maxL ps ≤ 20 := (ok.2.2 _ (maxL_spec ok.ok.ne).1).2
  have hTs : T ≤ 20000 := by
    have h1 : T ≤ ps.sum := by
      apply Int.le_of_not_gt
      intro hlt
      have := q.top.2.2 ps.sum (max_le_sum ok.ok.pos ok.ok.ne) hlt
      have := need_sum ok.ok.pos ok.ok.ne
      omega
    have := ok.ok.sum
    omega
  have L : ∃ b f G5, sFor (iOf (eTup (aCons (eVar 4) (aCons (eC (.int 20)) (aCons (eCall bMax (aCons (eVar 0) aNil)) aNil)))) kSeq) (gNm 7) g__law_cut_right_1 (EnvX lp lh lr si T (tupN c) lo none none none) G4 = .nx (EnvX lp lh lr si T (tupN c) lo b f none) G5 ∧ Ex0 G4 G5 := by
    let bs : List Int := [T, 20, maxL ps]
    have hbs : ∀ b ∈ bs, maxL ps ≤ b ∧ b ≤ 20000 := fun b hb => by
      simp only [bs, List.mem_cons, List.not_mem_nil, or_false] at hb
      have := q.top.1
      rcases hb with rfl | rfl | rfl <;> omega
    refine sFor_tup (xs := bs.map .int) (G1 := G4) (fun i ev G' => ∃ b f, ev = EnvX lp lh lr si T (tupN c) lo b f none ∧ Ex0 G4 G') (fun r => ∃ b f G5, r = .nx (EnvX lp lh lr si T (tupN c) lo b f none) G5 ∧ Ex0 G4 G5) (by simp [EnvX, bm4, bs]) ⟨_, _, rfl, Ex0.refl _⟩ ?_ ?_
    · intro i hi ev G' hI
      obtain ⟨b, f, he, x⟩ := hI
      have hi' : i < bs.length := by simpa using hi
      rw [List.getElem_map]
      have hb := hbs _ (List.getElem_mem hi')
      generalize bs[i] = bd at hb ⊢
      obtain ⟨f', G5, e5, x5⟩ := few_in (lp := lp) (si := si) (T := T) (cu := tupN c) (b := b) (f := f) (p := none) ok ((x04.trans x).at_ hh) (hr.ex (x04.trans x)) (x.at_ o4) hb.1 hb.2
      subst he
      have se : (EnvX lp lh lr si T (tupN c) lo b f none).set 7 (some (.int bd)) = EnvX lp lh lr si T (tupN c) lo (some (.int bd)) f none := rfl
      rw [gNm_, r_then_ok, se, e5]
      exact ⟨_, _, rfl, x.trans x5⟩
    · intro ev G' hI
      obtain ⟨b, f, he, x⟩ := hI
      subst he
      exact ⟨b, f, G', rfl, x⟩
  obtain ⟨b, f, G5, L, x5⟩ := L
  have x05 := x04.trans x5
  obtain ⟨G6, e6, x6⟩ := paper_spec ok (x05.at_ hh) hs s2 q.ch
  have o6 := (x5.trans x6).at_ o4
  have p6 := (x5.trans x6).at_ p4
  obtain ⟨G7, e7, x7⟩ := top_paper_ok (.inr ⟨lo, rfl, o6⟩ : isSeq (.ref lo) (ps.map .int) G6) ok.ok s1 s2 q.top q.ch
  rw [← hs] at e7
  have hdl := chn_len _ _ _ q.ch
  obtain ⟨pa, hpa⟩ : ∃ pa, pa = U.tup (d.map prU) := ⟨_, rfl⟩
  have sp : F__law_same 40 [pa, pa] G7 = .ok (.bl true) G7 := by rw [hpa]; exact same_spec 39 _ G7 (pdn_pa (by omega))
  have o7 := x7.at_ o6
  have p7 := x7.at_ p6
  have eq7 : FL.eqU G7 (.ref lo) (.ref lp) = some true := by rw [eqU_refs o7 p7]; simp
  have hcut : Cut T s ps := (cut_iff (IsTop.all ok.ok q.top)).mpr ⟨q.top.2.1, s2⟩
  obtain ⟨v8, e8, h8⟩ := holds_gen (T := T) ok.ok s1 s2 hs (.inr ⟨lo, rfl, o7⟩ : isSeq (.ref lo) (ps.map .int) G7) (valg_pa (c := d) (by omega))
  have v8t : v8 = true := h8.mpr (chn_judge q.ch)
  obtain ⟨v9, e9, h9⟩ := holds_gen (T := T + 1) ok.ok s1 s2 hs (.inr ⟨lo, rfl, o7⟩ : isSeq (.ref lo) (ps.map .int) G7) (valg_pa (c := d) (by omega))
  have v9f : v9 = false := by
    cases v9 with
    | false => rfl
    | true => exact absurd (h9.mp rfl) (chn_not_above ok.ok.pos ok.ok.ne q.ch hcut)
  rw [v8t, ← hpa] at e8
  rw [v9f, ← hpa] at e9
  rw [← hpa] at e6 e7
  have gk9 : gK 0 4 [0, 1, 2, 3] ([] : List U) [.ref lo, .int si, .int (T + 1), pa] = [.ref lo, .int si, .int (T + 1), pa] := rfl
  generalize tupN c = cu at e1 e3 e4 sc L
  refine ⟨G7, ?_, (x05.trans x6).trans x7⟩
  unfold g__law_cut_right
  rw [seq_nx (e' := [some (.ref lp), some (.ref lh), some (.ref lr), some (.int si), some (.int T), none, none, none, none, none, none]) (G' := G) (by simp [j1, j2]), seq_nx (e' := [some (.ref lp), some (.ref lh), some (.ref lr), some (.int si), some (.int T), some cu, none, none, none, none, none]) (G' := G1) (by simp [e1]), seq_nx (e' := EnvX lp lh lr si T cu lo none none none) (G' := G2) (by simp [EnvX, bl1]),
    seq_nx (e' := EnvX lp lh lr si T cu lo none none none) (G' := G4) (by simp [EnvX, e3, sc, bt3, gk, e4]), seq_nx (e' := EnvX lp lh lr si T cu lo none none none) (G' := G4) (by simp [EnvX, e5, sT, eq4]), seq_nx L, seq_nx (e' := EnvX lp lh lr si T cu lo b f (some pa)) (G' := G6) (by simp [EnvX, e6]), seq_nx (e' := EnvX lp lh lr si T cu lo b f (some pa)) (G' := G7) (by simp [EnvX, e7, sp, eq7]), seq_nx (e' := EnvX lp lh lr si T cu lo b f (some pa)) (G' := G7) (by simp [EnvX, e8])]
  simp [EnvX, gk9, e9]
end K09

set_option Elab.async false
set_option linter.all false
set_option maxRecDepth 100000
set_option maxHeartbeats 4000000
set_option autoImplicit false
namespace K09
open PySem PySem.Spec L2 FL

/-! ### all cuts, in ascending order -/
def lastN (c : List Nat) : Nat := c.getLastD 0
/-- the places behind c, of count - 1 in all -/
def nx1 (size count k : Nat) (c : List Nat) : List (List Nat) := (List.range ((size : Int) - ((count : Int) - 2 - k) - (lastN c + 1)).toNat).map fun j => c ++ [lastN c + 1 + j]
def Ev' (size count : Nat) : Nat → List (List Nat)
  | 0 => [[]]
  | k + 1 => (Ev' size count k).flatMap (nx1 size count k)
def wt (size : Nat) (c : List Nat) : Nat := 2 ^ (size - lastN c)
def wts (size : Nat) (cs : List (List Nat)) : Nat := (cs.map (wt size)).sum
theorem lastN_app (c : List Nat) (p : Nat) : lastN (c ++ [p]) = p := by simp [lastN]
theorem geo (a : Nat) : ∀ n : Nat, n ≤ a → ((List.range n).map fun j => 2 ^ (a - (1 + j))).sum + 2 ^ (a - n) = 2 ^ a
  | 0, _ => by simp
  | n + 1, h => by
    have ih := geo a n (by omega)
    rw [List.range_succ, List.map_append, List.sum_append]
    have e : 2 ^ (a - n) = 2 ^ (a - (n + 1)) + 2 ^ (a - (n + 1)) := by
      rw [← Nat.two_mul, ← Nat.pow_succ']
      congr 1; omega
    simp only [List.map_cons, List.map_nil, List.sum_cons, List.sum_nil]
    rw [show a - (1 + n) = a - (n + 1) by omega]
    omega
theorem nx1_wt {size count k : Nat} {c : List Nat} (hk : k + 2 ≤ count) : wts size (nx1 size count k c) ≤ wt size c := by
  unfold wts nx1 wt
  rw [List.map_map]
  obtain ⟨n, hn⟩ : ∃ n, n = ((size : Int) - ((count : Int) - 2 - k) - (lastN c + 1)).toNat := ⟨_, rfl⟩
  rw [← hn]
  have e : ((List.range n).map ((fun c => 2 ^ (size - lastN c)) ∘ fun j => c ++ [lastN c + 1 + j])) = (List.range n).map fun j => 2 ^ ((size - lastN c) - (1 + j)) := by
    apply List.map_congr_left
    intro j _
    show 2 ^ (size - lastN (c ++ [lastN c + 1 + j])) = _
    rw [lastN_app]
    congr 1; omega
  rw [e]
  by_cases h : n ≤ size - lastN c
  · exact Nat.le.intro (geo (size - lastN c) n h)
  · omega
theorem wts_app (size : Nat) (a b : List (List Nat)) : wts size (a ++ b) = wts size a + wts size b := by simp [wts]
theorem wts_flat {size count k : Nat} (hk : k + 2 ≤ count) : ∀ cs : List (List Nat), wts size (cs.flatMap (nx1 size count k)) ≤ wts size cs
  | [] => Nat.le_refl _
  | c :: r => by
    rw [List.flatMap_cons, wts_app]
    have := wts_flat (size := size) hk r
    have := nx1_wt (size := size) (c := c) hk
    simp [wts] at *
    omega
theorem ev_wts {size count : Nat} : ∀ k, k + 1 ≤ count → wts size (Ev' size count k) ≤ 2 ^ size
  | 0, _ => by simp [Ev', wts, wt, lastN]
  | k + 1, h => Nat.le_trans (wts_flat (by omega) _) (ev_wts k (by omega))
theorem len_wts (size : Nat) : ∀ cs : List (List Nat), cs.length ≤ wts size cs
  | [] => Nat.le_refl _
  | c :: r => by
    have := len_wts size r
    have : 1 ≤ wt size c := Nat.one_le_two_pow
    simp [wts] at *
    omega
theorem ev_len {size count k : Nat} (h : k + 1 ≤ count) (hs : size ≤ 14) : (Ev' size count k).length ≤ 16384 := by
  have h1 := len_wts size (Ev' size count k)
  have h2 := ev_wts (size := size) k h
  have h3 : 2 ^ size ≤ 2 ^ 14 := Nat.pow_le_pow_right (by decide) hs
  have : (2 : Nat) ^ 14 = 16384 := by decide
  omega
theorem ev_lens {size count : Nat} : ∀ k, ∀ c ∈ Ev' size count k, c.length = k
  | 0, c, h => by simp [Ev'] at h; rw [h]; rfl
  | k + 1, c, h => by
    obtain ⟨d, hd, hc⟩ := List.mem_flatMap.mp h
    obtain ⟨j, _, rfl⟩ := List.mem_map.mp hc
    simp [ev_lens k d hd]
def EnvE (size count : Int) (a b c d e f : Option U) : Ev := [some (.int size), some (.int count), a, b, c, d, e, f]
/-- the innermost loop -/
theorem every_in {size count k : Nat} (hs : size ≤ 14) (hk : k + 2 ≤ count) (hc : count ≤ size) {c : List Nat} (hcl : c.length = k) (hlast : lastN c ≤ 20) {G : Gp} {L : Nat} {base : List (List Nat)} (hL : G[L]? = some (.lst (base.map tupN))) (hb : base.length + (nx1 size count k c).length ≤ 20000) (a f e0 : Option U) :
    ∃ G' e f', g__law_every_3 (EnvE size count a (some (.int (k : Nat))) (some (.ref L)) (some (tupN c)) e0 f) G = .nx (EnvE size count a (some (.int (k : Nat))) (some (.ref L)) (some (tupN c)) e f') G' ∧ G' = G.set L (.lst ((base ++ nx1 size count k c).map tupN)) := by
  obtain ⟨si, hsi⟩ : ∃ si : Int, si = (size : Int) := ⟨_, rfl⟩
  obtain ⟨ci, hci⟩ : ∃ ci : Int, ci = (count : Int) := ⟨_, rfl⟩
  obtain ⟨ki, hki⟩ : ∃ ki : Int, ki = (k : Int) := ⟨_, rfl⟩
  obtain ⟨la, hla⟩ : ∃ la : Int, la = ((lastN c : Nat) : Int) := ⟨_, rfl⟩
  rw [← hsi, ← hci, ← hki]
  -- at
  have hat : (sSeq (sAsg (eC (.int 0)) (gNm 6)) (sSeq (sIf (bVal (eBin gGt (eVar 3) (eC (.int 0)))) g__law_every_1 sNil) sNil)) (EnvE si ci a (some (.int ki)) (some (.ref L)) (some (tupN c)) e0 f) G = .nx (EnvE si ci a (some (.int ki)) (some (.ref L)) (some (tupN c)) (some (.int la)) f) G := by
    by_cases h0 : 0 < ki
    · have hne : c ≠ [] := fun z => by rw [z] at hcl; simp at hcl; omega
      have gi : ∀ G', gIdx (tupN c) (.int (-1)) G' = .ok (.int la) G' := fun G' => by
        refine gIdx_tup (atI_last ?_)
        unfold ofN
        rw [List.getLast?_map]
        obtain ⟨z, hz⟩ : ∃ z, c.getLast? = some z := ⟨c.getLast hne, List.getLast?_eq_some_getLast hne⟩
        rw [hz]
        have : lastN c = z := by unfold lastN; rw [List.getLastD_eq_getLast?, hz]; rfl
        rw [hla, this]; rfl
      simp [EnvE, g__law_every_1, h0, gi]
    · have : c = [] := List.length_eq_zero_iff.mp (by omega)
      have hl0 : la = 0 := by rw [hla, this]; rfl
      simp [EnvE, h0, hl0]
  have hat2 : ∀ g, (sSeq (sAsg (eC (.int 0)) (gNm 6)) (sSeq (sIf (bVal (eBin gGt (eVar 3) (eC (.int 0)))) g__law_every_1 sNil) g)) (EnvE si ci a (some (.int ki)) (some (.ref L)) (some (tupN c)) e0 f) G = g (EnvE si ci a (some (.int ki)) (some (.ref L)) (some (tupN c)) (some (.int la)) f) G := by
    intro g
    rw [seq_nx (e' := EnvE si ci a (some (.int ki)) (some (.ref L)) (some (tupN c)) (some (.int 0)) f) (G' := G) (by simp [EnvE])] at hat ⊢
    refine seq_nx ?_
    rw [sSeq_] at hat
    cases q : sIf (bVal (eBin gGt (eVar 3) (eC (.int 0)))) g__law_every_1 sNil (EnvE si ci a (some (.int ki)) (some (.ref L)) (some (tupN c)) (some (.int 0)) f) G with
    | nx e2 G2 => rw [q] at hat; exact hat
    | ret u G2 => rw [q] at hat; exact nomatch hat
    | brk e2 G2 => rw [q] at hat; exact nomatch hat
    | ct e2 G2 => rw [q] at hat; exact nomatch hat
    | exc x y e2 G2 => rw [q] at hat; exact nomatch hat
    | bad => rw [q] at hat; exact nomatch hat
  have e3 : g__law_every_3 = sSeq (sAsg (eC (.int 0)) (gNm 6)) (sSeq (sIf (bVal (eBin gGt (eVar 3) (eC (.int 0)))) g__law_every_1 sNil) (sFor (iOfs (aCons (eBin gAdd (eVar 6) (eC (.int 1))) (aCons (eBin gSub (eVar 0) (eBin gSub (eBin gSub (eVar 1) (eC (.int 2))) (eVar 3))) aNil)) kRng2) (gNm 7) g__law_every_2)) := rfl
  rw [e3, hat2]
  have hn : (si - (ci - 2 - ki) - (la + 1)).toNat = ((size : Int) - ((count : Int) - 2 - k) - (lastN c + 1)).toNat := by rw [hsi, hci, hki, hla]
  have hnl : (nx1 size count k c).length = (si - (ci - 2 - ki) - (la + 1)).toNat := by rw [hn]; simp [nx1]
  have htake : ∀ j, (nx1 size count k c).take j = ((List.range (si - (ci - 2 - ki) - (la + 1)).toNat).take j).map fun j => c ++ [lastN c + 1 + j] := fun j => by unfold nx1; rw [← hn, List.map_take]
  refine sFor_rng2 (a := la + 1) (j := si - (ci - 2 - ki)) (G1 := G) (fun j ev G' => ∃ f', ev = EnvE si ci a (some (.int ki)) (some (.ref L)) (some (tupN c)) (some (.int la)) f' ∧ G' = G.set L (.lst ((base ++ (nx1 size count k c).take j).map tupN)))
    (fun r => ∃ G' e f', r = .nx (EnvE si ci a (some (.int ki)) (some (.ref L)) (some (tupN c)) e f') G' ∧ G' = G.set L (.lst ((base ++ nx1 size count k c).map tupN))) (by simp [EnvE]) (by omega) (by omega) (by omega) (by omega) ⟨f, rfl, ?_⟩ ?_ ?_
  · simp only [List.take_zero, List.append_nil]
    exact (set_same hL).symm
  · rintro j hj ev G' ⟨f', rfl, rfl⟩
    have hset : (G.set L (OU.lst ((base ++ (nx1 size count k c).take j).map tupN)))[L]? = some (.lst ((base ++ (nx1 size count k c).take j).map tupN)) := set_get hL
    have hjl : j < (nx1 size count k c).length := by rw [hnl]; exact hj
    have ap := mAppend_ref (y := tupN (c ++ [lastN c + 1 + j])) hset (by simp; omega)
    have is := isLst_ref hset
    have ga : ∀ G', gAdd (tupN c) (.tup [.int (la + 1 + (j : Nat))]) G' = .ok (tupN (c ++ [lastN c + 1 + j])) G' := fun G' => by
      unfold tupN
      rw [gAdd_tup (by simp [ofN]; omega)]
      congr 2
      simp [ofN]
      omega
    have fine : (gNm 7 (.int (la + 1 + (j : Nat))) (EnvE si ci a (some (.int ki)) (some (.ref L)) (some (tupN c)) (some (.int la)) f') (G.set L (OU.lst ((base ++ (nx1 size count k c).take j).map tupN)))).andThen (EnvE si ci a (some (.int ki)) (some (.ref L)) (some (tupN c)) (some (.int la)) f') (fun env1 G1 => g__law_every_2 env1 G1) = .nx (EnvE si ci a (some (.int ki)) (some (.ref L)) (some (tupN c)) (some (.int la)) (some (.int (la + 1 + (j : Nat))))) (G.set L (OU.lst ((base ++ (nx1 size count k c).take (j + 1)).map tupN))) := by
      have e2 : (nx1 size count k c).take (j + 1) = (nx1 size count k c).take j ++ [c ++ [lastN c + 1 + j]] := by
        rw [List.take_succ_eq_append_getElem hjl]
        simp [nx1]
      rw [List.set_set] at ap
      have e4 : (base ++ (nx1 size count k c).take (j + 1)).map tupN = (base ++ (nx1 size count k c).take j).map tupN ++ [tupN (c ++ [lastN c + 1 + j])] := by rw [e2]; simp
      rw [e4]
      generalize (base ++ (nx1 size count k c).take j).map tupN = B at ap is ⊢
      simp [g__law_every_2, eMeth_, EnvE, is, ga, ap]
    rw [fine]
    exact ⟨_, rfl, rfl⟩
  · rintro ev G' ⟨f', rfl, rfl⟩
    refine ⟨_, _, f', rfl, ?_⟩
    rw [List.take_of_length_le (by rw [hnl]; exact Nat.le_refl _)]

theorem ev_last {size count : Nat} : ∀ k, k + 1 ≤ count → ∀ c ∈ Ev' size count k, lastN c ≤ size
  | 0, _, c, h => by simp [Ev'] at h; rw [h]; simp [lastN]
  | k + 1, hk, c, h => by
    obtain ⟨d, hd, hc⟩ := List.mem_flatMap.mp h
    obtain ⟨j, hj, rfl⟩ := List.mem_map.mp hc
    rw [lastN_app]
    have := List.mem_range.mp hj
    omega
theorem flat_take_le {α β : Type} (f : α → List β) (cs : List α) (i : Nat) : ((cs.take i).flatMap f).length ≤ (cs.flatMap f).length := by
  have e : cs.flatMap f = (cs.take i).flatMap f ++ (cs.drop i).flatMap f := by rw [← List.flatMap_append, List.take_append_drop]
  rw [e, List.length_append]
  omega
theorem every_mid {size count k : Nat} (hs : size ≤ 14) (hk : k + 2 ≤ count) (hc : count ≤ size) {G : Gp} {lc : Nat} (hl : G[lc]? = some (.lst ((Ev' size count k).map tupN))) (c d e f : Option U) :
    ∃ d' e' f', g__law_every_4 (EnvE size count (some (.ref lc)) (some (.int (k : Nat))) c d e f) G = .nx (EnvE size count (some (.ref G.length)) (some (.int (k : Nat))) (some (.ref G.length)) d' e' f') (G ++ [.lst ((Ev' size count (k + 1)).map tupN)]) := by
  have hlt := (List.getElem?_eq_some_iff.mp hl).1
  obtain ⟨si, hsi⟩ : ∃ si : Int, si = (size : Int) := ⟨_, rfl⟩
  obtain ⟨ci, hci⟩ : ∃ ci : Int, ci = (count : Int) := ⟨_, rfl⟩
  obtain ⟨ki, hki⟩ : ∃ ki : Int, ki = (k : Int) := ⟨_, rfl⟩
  rw [← hsi, ← hci, ← hki]
  have L : ∃ d' e' f', sFor (iOf (eVar 2) kSeq) (gNm 5) g__law_every_3 (EnvE si ci (some (.ref lc)) (some (.int ki)) (some (.ref G.length)) d e f) (G ++ [.lst []]) = .nx (EnvE si ci (some (.ref lc)) (some (.int ki)) (some (.ref G.length)) d' e' f') (G ++ [.lst ((Ev' size count (k + 1)).map tupN)]) := by
    have hf0 : eVar 2 (EnvE si ci (some (.ref lc)) (some (.int ki)) (some (.ref G.length)) d e f) (G ++ [.lst []]) = .ok (.ref lc) (G ++ [.lst []]) := by simp [EnvE]
    refine sFor_ref (l := lc) (xs := (Ev' size count k).map tupN) (G1 := G ++ [.lst []]) (fun i ev G' => ∃ d' e' f', ev = EnvE si ci (some (.ref lc)) (some (.int ki)) (some (.ref G.length)) d' e' f' ∧ G' = G ++ [.lst ((((Ev' size count k).take i).flatMap (nx1 size count k)).map tupN)]) (fun r => ∃ d' e' f', r = .nx (EnvE si ci (some (.ref lc)) (some (.int ki)) (some (.ref G.length)) d' e' f') (G ++ [.lst ((Ev' size count (k + 1)).map tupN)])) hf0 (by rw [List.getElem?_append_left hlt]; exact hl) ?_ ⟨d, e, f, rfl, by simp⟩ ?_ ?_
    · rintro i ev G' ⟨d', e', f', rfl, rfl⟩
      rw [List.getElem?_append_left hlt]; exact hl
    · rintro i hi ev G' ⟨d', e', f', rfl, rfl⟩
      have hi' : i < (Ev' size count k).length := by simpa using hi
      obtain ⟨c1, hc1⟩ : ∃ c1, c1 = (Ev' size count k)[i] := ⟨_, rfl⟩
      have hmem : c1 ∈ Ev' size count k := by rw [hc1]; exact List.getElem_mem _
      have hget : ((Ev' size count k).map tupN)[i] = tupN c1 := by rw [List.getElem_map, hc1]
      have htk : ((Ev' size count k).take (i + 1)).flatMap (nx1 size count k) = ((Ev' size count k).take i).flatMap (nx1 size count k) ++ nx1 size count k c1 := by
        rw [List.take_succ_eq_append_getElem hi', List.flatMap_append, ← hc1]
        simp
      have hbl : (((Ev' size count k).take i).flatMap (nx1 size count k)).length + (nx1 size count k c1).length ≤ 20000 := by
        have h1 := flat_take_le (nx1 size count k) (Ev' size count k) (i + 1)
        have h2 := ev_len (size := size) (count := count) (k := k + 1) (by omega) hs
        have h3 : ((Ev' size count k).flatMap (nx1 size count k)).length = (Ev' size count (k + 1)).length := rfl
        rw [htk, List.length_append] at h1
        omega
      obtain ⟨G', e2, f2, q1, q2⟩ := every_in (size := size) (count := count) (k := k) hs hk hc (ev_lens k c1 hmem) (by have := ev_last k (by omega) c1 hmem; omega) (L := G.length) (push_at G _) hbl (some (.ref lc)) f' e'
      rw [hget]
      rw [← hsi, ← hci, ← hki] at q1
      have fine : (gNm 5 (tupN c1) (EnvE si ci (some (.ref lc)) (some (.int ki)) (some (.ref G.length)) d' e' f') (G ++ [.lst ((((Ev' size count k).take i).flatMap (nx1 size count k)).map tupN)])).andThen (EnvE si ci (some (.ref lc)) (some (.int ki)) (some (.ref G.length)) d' e' f') (fun env1 G1 => g__law_every_3 env1 G1) = .nx (EnvE si ci (some (.ref lc)) (some (.int ki)) (some (.ref G.length)) (some (tupN c1)) e2 f2) G' := q1
      rw [fine]
      refine ⟨_, _, _, rfl, ?_⟩
      rw [q2, htk, List.set_append_right _ _ (Nat.le_refl _)]
      simp
    · rintro ev G' ⟨d', e', f', rfl, rfl⟩
      refine ⟨d', e', f', ?_⟩
      rw [List.take_of_length_le (by simp)]
      rfl
  obtain ⟨d', e', f', L⟩ := L
  refine ⟨d', e', f', ?_⟩
  unfold g__law_every_4
  rw [seq_nx (e' := EnvE si ci (some (.ref lc)) (some (.int ki)) (some (.ref G.length)) d e f) (G' := G ++ [.lst []]) (by simp [EnvE]), seq_nx L]
  simp [EnvE]
theorem every_spec {size count : Nat} (hs : size ≤ 14) (h1 : 1 ≤ count) (hc : count ≤ size) (G : Gp) : ∃ l G', F__law_every [.int (size : Nat), .int (count : Nat)] G = .ok (.ref l) G' ∧ Ex0 G G' ∧ G'[l]? = some (.lst ((Ev' size count (count - 1)).map tupN)) ∧ G.length ≤ l := by
  obtain ⟨si, hsi⟩ : ∃ si : Int, si = (size : Int) := ⟨_, rfl⟩
  obtain ⟨ci, hci⟩ : ∃ ci : Int, ci = (count : Int) := ⟨_, rfl⟩
  rw [run__law_every, ← hsi, ← hci]
  have L : ∃ l b c d e f G', sFor (iOfs (aCons (eBin gSub (eVar 1) (eC (.int 1))) aNil) kRng1) (gNm 3) g__law_every_4 (EnvE si ci (some (.ref G.length)) none none none none none) (G ++ [.lst [.tup []]]) = .nx (EnvE si ci (some (.ref l)) b c d e f) G' ∧ Ex0 G G' ∧ G'[l]? = some (.lst ((Ev' size count (count - 1)).map tupN)) ∧ G.length ≤ l := by
    refine sFor_rng1 (j := ci - 1) (G1 := G ++ [.lst [.tup []]]) (fun k ev G' => ∃ l b c d e f, ev = EnvE si ci (some (.ref l)) b c d e f ∧ Ex0 G G' ∧ G'[l]? = some (.lst ((Ev' size count k).map tupN)) ∧ G.length ≤ l ∧ k ≤ count - 1) (fun r => ∃ l b c d e f G', r = .nx (EnvE si ci (some (.ref l)) b c d e f) G' ∧ Ex0 G G' ∧ G'[l]? = some (.lst ((Ev' size count (count - 1)).map tupN)) ∧ G.length ≤ l) (by simp [EnvE]) (by omega) (by omega) ⟨_, _, _, _, _, _, rfl, ex0_push _ _, push_at _ _, Nat.le_refl _, by omega⟩ ?_ ?_
    · rintro k hk ev G' ⟨l, b, c, d, e, f, rfl, hx, hl, hle, hk1⟩
      obtain ⟨d', e', f', q⟩ := every_mid (size := size) (count := count) (k := k) hs (by omega) hc hl c d e f
      rw [← hsi, ← hci] at q
      obtain ⟨ki, hki⟩ : ∃ ki : Int, ki = (k : Int) := ⟨_, rfl⟩
      rw [← hki] at q ⊢
      have fine : (gNm 3 (.int ki) (EnvE si ci (some (.ref l)) b c d e f) G').andThen (EnvE si ci (some (.ref l)) b c d e f) (fun env1 G1 => g__law_every_4 env1 G1) = .nx (EnvE si ci (some (.ref G'.length)) (some (.int ki)) (some (.ref G'.length)) d' e' f') (G' ++ [.lst ((Ev' size count (k + 1)).map tupN)]) := q
      rw [fine]
      exact ⟨_, _, _, _, _, _, rfl, hx.trans (ex0_push _ _), push_at _ _, hx.1, by omega⟩
    · rintro ev G' ⟨l, b, c, d, e, f, rfl, hx, hl, hle, hk1⟩
      have : (ci - 1).toNat = count - 1 := by omega
      rw [this] at hl
      exact ⟨l, b, c, d, e, f, G', rfl, hx, hl, hle⟩
  obtain ⟨l, b, c, d, e, f, G', L, hx, hl, hle⟩ := L
  refine ⟨l, G', ?_, hx, hl, hle⟩
  unfold g__law_every
  rw [seq_nx (e' := EnvE si ci (some (.ref G.length)) none none none none none) (G' := G ++ [.lst [.tup []]]) (by simp [EnvE]), seq_nx L]
  simp [EnvE]

/-! ### cuts that are right -/
def VC (n : Nat) (c : List Nat) : Prop := List.Pairwise (· < ·) (0 :: (c ++ [n]))
theorem vc_of {n : Nat} {c : List Nat} (h : List.Pairwise (· < ·) (0 :: c)) (h2 : ∀ a ∈ 0 :: c, a < n) : VC n c := by
  unfold VC
  rw [← List.cons_append, List.pairwise_append]
  exact ⟨h, by simp, fun a ha b hb => by rw [List.mem_singleton] at hb; rw [hb]; exact h2 a ha⟩
theorem ev_vc0 {size count : Nat} (hc : count ≤ size) (h1 : 1 ≤ count) : ∀ k, k + 1 ≤ count → ∀ c ∈ Ev' size count k, List.Pairwise (· < ·) (0 :: c) ∧ (∀ a ∈ c, a ≤ lastN c) ∧ lastN c + (count - 1 - k) < size
  | 0, _, c, h => by
    simp [Ev'] at h
    subst h
    exact ⟨by simp, fun a ha => by simp at ha, by show 0 + (count - 1 - 0) < size; omega⟩
  | k + 1, hk, c, h => by
    obtain ⟨d, hd, hcd⟩ := List.mem_flatMap.mp h
    obtain ⟨j, hj, rfl⟩ := List.mem_map.mp hcd
    have hj := List.mem_range.mp hj
    obtain ⟨i1, i2, i3⟩ := ev_vc0 hc h1 k (by omega) d hd
    rw [lastN_app]
    refine ⟨?_, fun a ha => ?_, by omega⟩
    · rw [← List.cons_append, List.pairwise_append]
      refine ⟨i1, by simp, fun a ha b hb => ?_⟩
      rw [List.mem_singleton] at hb
      rw [hb]
      rcases List.mem_cons.mp ha with rfl | ha
      · omega
      · have := i2 a ha; omega
    · rcases List.mem_append.mp ha with ha | ha
      · have := i2 a ha; omega
      · rw [List.mem_singleton] at ha; omega
theorem ev_vc {size count : Nat} (hc : count ≤ size) (h1 : 1 ≤ count) {c : List Nat} (h : c ∈ Ev' size count (count - 1)) : VC size c ∧ c.length = count - 1 := by
  obtain ⟨i1, i2, i3⟩ := ev_vc0 hc h1 (count - 1) (by omega) c h
  refine ⟨vc_of i1 (fun a ha => ?_), ev_lens _ c h⟩
  rcases List.mem_cons.mp ha with rfl | ha
  · omega
  · have := i2 a ha; omega
theorem gre_vc {T : Int} {row : List Int} : ∀ (m b : Nat) (c : List Nat), Gre T row m b c → b < row.length → List.Pairwise (· < ·) (b :: (c ++ [row.length]))
  | 0, b, c, h, hb => by
    have h : c = [] := h
    subst h
    simpa using hb
  | m + 1, b, c, ⟨e, r, hc, h1, h2, _, h4⟩, hb => by
    subst hc
    have hl := cut_len _ _ h2
    rw [List.length_drop] at hl
    have ih := gre_vc m e r h4 (by omega)
    rw [List.cons_append, List.pairwise_cons]
    refine ⟨fun a ha => ?_, ih⟩
    rcases List.mem_cons.mp ha with rfl | ha
    · exact h1
    · have := (List.pairwise_cons.mp ih).1 a ha
      omega
/-! ### drawn cuts -/
theorem mPopAt_ref {G : Gp} {l : Nat} {xs : List U} {i : Int} {y : U} (h : G[l]? = some (.lst xs)) (h0 : 0 ≤ i) (h1 : i < 1000000) (hy : xs[i.toNat]? = some y) : mPopAt (.ref l) [.int i] G = .ok y (G.set l (.lst (xs.eraseIdx i.toNat))) := by
  have hl := (List.getElem?_eq_some_iff.mp hy).1
  have e : ixN xs.length i = some i.toNat := by unfold ixN; rw [if_pos h0, if_pos (by omega)]
  unfold mPopAt
  have c : -(2 ^ 63) ≤ i ∧ i < 2 ^ 63 := by omega
  simp only [if_pos c, h, e, hy]
theorem eraseIdx_ofN : ∀ (xs : List Nat) (i : Nat), (ofN xs).eraseIdx i = ofN (xs.eraseIdx i)
  | [], _ => rfl
  | _ :: _, 0 => rfl
  | x :: xs, i + 1 => congrArg (U.int (x : Nat) :: ·) (eraseIdx_ofN xs i)
theorem rg_pair : ∀ (m b : Nat), List.Pairwise (· < ·) (b :: (List.range m).map fun i => b + 1 + i)
  | 0, b => by simp
  | m + 1, b => by
    rw [List.range_succ_eq_map, List.map_cons, List.map_map]
    have ih := rg_pair m (b + 1)
    have e : ((List.range m).map ((fun i => b + 1 + i) ∘ Nat.succ)) = (List.range m).map fun i => b + 1 + 1 + i := List.map_congr_left fun i _ => by
      show b + 1 + (i + 1) = _
      omega
    rw [e]
    rw [List.pairwise_cons]
    refine ⟨fun a ha => ?_, ih⟩
    rcases List.mem_cons.mp ha with rfl | ha
    · omega
    · have := (List.pairwise_cons.mp ih).1 a ha
      omega
def EnvD2 (n s : Int) (lp : Nat) (k : Option U) : Ev := [some (.ref 0), some (.int n), some (.int s), some (.ref lp), k]
theorem drawn_spec {n s : Nat} {ni si : Int} {G : Gp} (hn : n ≤ 14) (s1 : 1 ≤ s) (s2 : s ≤ n) (hni : ni = (n : Int)) (hsi : si = (s : Int)) (hD : Dr G) : ∃ (c : List Nat) (G' : Gp), F__law_drawn [.ref 0, .int ni, .int si] G = .ok (tupN c) G' ∧ VC n c ∧ c.length = s - 1 ∧ Dr G' ∧ Ext G G' := by
  rw [run__law_drawn]
  obtain ⟨lc, hlc⟩ : ∃ lc, lc = G.length := ⟨_, rfl⟩
  have hDl := hD.len
  obtain ⟨p0, hp0⟩ : ∃ p0, p0 = (List.range (n - 1)).map fun i => 0 + 1 + i := ⟨_, rfl⟩
  obtain ⟨G1, hG1⟩ : ∃ G1, G1 = G ++ [OU.lst (ofN p0)] := ⟨_, rfl⟩
  have x1 : Ex0 G G1 := by rw [hG1]; exact ex0_push _ _
  have a1 : G1[lc]? = some (.lst (ofN p0)) := by rw [hG1, hlc]; exact push_at _ _
  have rg : gRgL (.int 1) (.int ni) G = .ok (.ref lc) G1 := by
    rw [gRgL_ok (by omega) (by omega) (by omega) (by omega), hlc, hG1, hp0]
    congr 4
    unfold rgI ofN
    rw [List.map_map, List.map_map, show (ni - 1).toNat = n - 1 by omega]
    exact List.map_congr_left fun i _ => by
      show U.int (1 + (i : Nat)) = U.int ((0 + 1 + i : Nat) : Int)
      congr 1 <;> omega
  have pw0 : List.Pairwise (· < ·) (0 :: p0) := by rw [hp0]; exact rg_pair (n - 1) 0
  have L : ∃ (k : Option U) (c : List Nat) (G2 : Gp), sFor (iOfs (aCons (eBin FL.gSub (eVar 1) (eVar 2)) aNil) kRng1) (gNm 4) g__law_drawn_1 (EnvD2 ni si lc none) G1 = .nx (EnvD2 ni si lc k) G2 ∧ Dr G2 ∧ Ext G G2 ∧ G2[lc]? = some (.lst (ofN c)) ∧ List.Pairwise (· < ·) (0 :: c) ∧ (∀ a ∈ c, a < n) ∧ c.length = s - 1 := by
    refine sFor_rng1 (j := ni - si) (G1 := G1) (fun i ev G' => ∃ (k : Option U) (c : List Nat), ev = EnvD2 ni si lc k ∧ Dr G' ∧ Ext G G' ∧ G'[lc]? = some (.lst (ofN c)) ∧ List.Pairwise (· < ·) (0 :: c) ∧ (∀ a ∈ c, a < n) ∧ c.length = n - 1 - i) (fun r => ∃ (k : Option U) (c : List Nat) (G2 : Gp), r = .nx (EnvD2 ni si lc k) G2 ∧ Dr G2 ∧ Ext G G2 ∧ G2[lc]? = some (.lst (ofN c)) ∧ List.Pairwise (· < ·) (0 :: c) ∧ (∀ a ∈ c, a < n) ∧ c.length = s - 1) (by simp [EnvD2]) (by omega) (by omega) ⟨none, p0, rfl, x1.dr hD, x1.ext, a1, pw0, fun a ha => by
      rw [hp0] at ha
      obtain ⟨i, hi, rfl⟩ := List.mem_map.mp ha
      have := List.mem_range.mp hi
      omega, by rw [hp0]; simp⟩ ?_ ?_
    · intro i hi ev G' hI
      obtain ⟨k, c, he, d', x', a', pw, hlt, hcl⟩ := hI
      obtain ⟨ii, hii⟩ : ∃ ii : Int, ii = (i : Int) := ⟨_, rfl⟩
      rw [← hii]
      obtain ⟨cl, hcl2⟩ : ∃ cl : Int, cl = (c.length : Int) := ⟨_, rfl⟩
      have bl : bLen [.ref lc] G' = .ok (.int cl) G' := by
        rw [bLen_seq (seqU_of a'), hcl2]
        simp [ofN]
      obtain ⟨r, G3, e3, ra, rb, o3, d3⟩ := next_spec (b := cl) d' (by omega)
      have a3 := o3.ext.at_ (by omega) a'
      have hrl : r.toNat < c.length := by omega
      have po := mPopAt_ref (i := r) (y := .int ((c[r.toNat] : Nat) : Int)) a3 ra (by omega) (by unfold ofN; rw [List.getElem?_map, List.getElem?_eq_getElem hrl]; rfl)
      rw [eraseIdx_ofN] at po
      have il := isLst_ref a'
      have fine : (gNm 4 (.int ii) (EnvD2 ni si lc k) G').andThen (EnvD2 ni si lc k) (fun env1 G1 => g__law_drawn_1 env1 G1) = .nx (EnvD2 ni si lc (some (.int ii))) (G3.set lc (.lst (ofN (c.eraseIdx r.toNat)))) := by
        generalize U.int ((c[r.toNat] : Nat) : Int) = y at po
        generalize ofN (c.eraseIdx r.toNat) = zs at po ⊢
        simp [EnvD2, g__law_drawn_1, eMeth_, il, bl, e3, po]
      subst he
      rw [fine]
      refine ⟨_, c.eraseIdx r.toNat, rfl, dr_set d3 (by omega) _, ext_set (x'.trans o3.ext) (by omega) _, set_get a3, ?_, fun a ha => hlt a (List.mem_of_mem_eraseIdx ha), ?_⟩
      · exact pw.sublist (List.Sublist.cons_cons 0 (List.eraseIdx_sublist _ _))
      · rw [List.length_eraseIdx, if_pos hrl]
        omega
    · intro ev G' hI
      obtain ⟨k, c, he, d', x', a', pw, hlt, hcl⟩ := hI
      subst he
      exact ⟨k, c, G', rfl, d', x', a', pw, hlt, by omega⟩
  obtain ⟨k, c, G2, L, d2, x2, a2, pw, hlt, hcl⟩ := L
  have bt := bTuple_seq (seqU_of a2)
  refine ⟨c, G2, ?_, vc_of pw (fun a ha => ?_), hcl, d2, x2⟩
  · unfold g__law_drawn
    rw [seq_nx (e' := EnvD2 ni si lc none) (G' := G1) (by simp [EnvD2, rg]), seq_nx L]
    simp [EnvD2, bt, tupN]
  · rcases List.mem_cons.mp ha with rfl | ha
    · omega
    · exact hlt a ha
/-! ### sums -/
def smp (H : Nat → Int) : Nat → List Nat → List Int
  | _, [] => []
  | b, p :: r => (H p - H b) :: smp H p r
theorem smp_len (H : Nat → Int) : ∀ (b : Nat) (l : List Nat), (smp H b l).length = l.length
  | _, [] => rfl
  | b, p :: r => by show (smp H p r).length + 1 = _; rw [smp_len H p r]; rfl
theorem smp_pos {row : List Int} (hp : PosR row) : ∀ (b : Nat) (l : List Nat), List.Pairwise (· < ·) (b :: l) → (∀ p ∈ l, p ≤ row.length) → ∀ x ∈ smp (Hs row) b l, 1 ≤ x
  | _, [], _, _, x, hx => by simp [smp] at hx
  | b, p :: r, hpw, hl, x, hx => by
    have h1 := List.pairwise_cons.mp hpw
    have hbp := h1.1 p List.mem_cons_self
    rcases List.mem_cons.mp hx with rfl | hx
    · have hpl := hl p List.mem_cons_self
      have h2 := Hs_succ (row := row) (e := b) (by omega)
      have h3 := Hs_mono hp (b := b + 1) (e := p) hbp
      have h4 := hp _ (List.getElem_mem (show b < row.length by omega))
      omega
    · exact smp_pos hp p r h1.2 (fun q hq => hl q (List.mem_cons_of_mem _ hq)) x hx
/-- the sums of a cut -/
def smC (ps : List Int) (c : List Nat) : List Int := smp (Hs ps) 0 (c ++ [ps.length])
theorem smC_len (ps : List Int) (c : List Nat) : (smC ps c).length = c.length + 1 := by unfold smC; rw [smp_len]; simp
theorem smC_pos {ps : List Int} {c : List Nat} (hp : PosR ps) (h : VC ps.length c) : ∀ x ∈ smC ps c, 1 ≤ x := by
  refine smp_pos hp 0 _ h (fun p hp' => ?_)
  rcases List.mem_append.mp hp' with hc | hc
  · unfold VC at h
    rw [← List.cons_append, List.pairwise_append] at h
    have := h.2.2 p (List.mem_cons_of_mem _ hc) ps.length (by simp)
    omega
  · rw [List.mem_singleton] at hc; omega
def EnvU (lh : Nat) (cu : U) (ls : Nat) (at_ : Int) (p : Option U) : Ev := [some (.ref lh), some cu, some (.ref ls), some (.int at_), p]
theorem sums_spec {ps : List Int} {lh : Nat} {c : List Nat} {G : Gp} (ok : OkC ps) (hh : G[lh]? = some (.lst (fL (Hs ps) (ps.length + 1)))) (hv : VC ps.length c) (hcl : c.length ≤ 100) : ∃ (ls : Nat) (G' : Gp), F__law_sums [.ref lh, tupN c] G = .ok (.ref ls) G' ∧ Ex0 G G' ∧ G.length ≤ ls ∧ G'[ls]? = some (.lst ((smC ps c).map .int)) := by
  rw [run__law_sums]
  have hn := ok.2.1
  obtain ⟨ls, hls⟩ : ∃ ls, ls = G.length := ⟨_, rfl⟩
  obtain ⟨G1, hG1⟩ : ∃ G1, G1 = G ++ [OU.lst []] := ⟨_, rfl⟩
  have x1 : Ex0 G G1 := by rw [hG1]; exact ex0_push _ _
  have a1 : G1[ls]? = some (.lst []) := by rw [hG1, hls]; exact push_at _ _
  obtain ⟨ni, hni⟩ : ∃ ni : Int, ni = (ps.length : Int) := ⟨_, rfl⟩
  obtain ⟨pl, hpl⟩ : ∃ pl, pl = c ++ [ps.length] := ⟨_, rfl⟩
  have hpln : ∀ p ∈ pl, p ≤ ps.length := fun p hp' => by
    rw [hpl] at hp'
    rcases List.mem_append.mp hp' with hc | hc
    · unfold VC at hv
      rw [← List.cons_append, List.pairwise_append] at hv
      have := hv.2.2 p (List.mem_cons_of_mem _ hc) ps.length (by simp)
      omega
    · rw [List.mem_singleton] at hc; omega
  obtain ⟨cu, hcu⟩ : ∃ cu, cu = tupN c := ⟨_, rfl⟩
  rw [← hcu]
  -- the places
  obtain ⟨G2, hG2⟩ : ∃ G2, G2 = G1 ++ [OU.lst (ofN c)] := ⟨_, rfl⟩
  obtain ⟨G3, hG3⟩ : ∃ G3, G3 = G2 ++ [OU.lst [.int ni]] := ⟨_, rfl⟩
  obtain ⟨G4, hG4⟩ : ∃ G4, G4 = G3 ++ [OU.lst (ofN pl)] := ⟨_, rfl⟩
  have x2 : Ex0 G1 G2 := by rw [hG2]; exact ex0_push _ _
  have x3 : Ex0 G2 G3 := by rw [hG3]; exact ex0_push _ _
  have x4 : Ex0 G3 G4 := by rw [hG4]; exact ex0_push _ _
  have b2 : bList [cu] G1 = .ok (.ref G1.length) G2 := by rw [hG2, hcu]; exact bList_seq rfl
  have r2 : G2[G1.length]? = some (.lst (ofN c)) := by rw [hG2]; exact push_at _ _
  have bl2 : bLen [.ref lh] G2 = .ok (.int (ni + 1)) G2 := by
    rw [bLen_seq (seqU_of ((x1.trans x2).at_ hh)), fL_len]
    congr 2
    omega
  have r3 : G3[G2.length]? = some (.lst [.int ni]) := by rw [hG3]; exact push_at _ _
  have r4 : G4[G3.length]? = some (.lst (ofN pl)) := by rw [hG4]; exact push_at _ _
  have ga : gAdd (.ref G1.length) (.ref G2.length) G3 = .ok (.ref G3.length) G4 := by
    unfold gAdd
    simp only [x3.at_ r2, r3]
    rw [if_pos (by simp [ofN]; omega), hG4, hpl]
    congr 3
    simp [ofN, hni]
  have x04 : Ex0 G G4 := ((x1.trans x2).trans x3).trans x4
  have a4 := ((x2.trans x3).trans x4).at_ a1
  have hl14 : G1.length < G2.length := (List.getElem?_eq_some_iff.mp r2).1
  have hl24 : G2.length < G3.length := (List.getElem?_eq_some_iff.mp r3).1
  have hl1 : ls < G1.length := (List.getElem?_eq_some_iff.mp a1).1
  have hlen : (ofN pl).length = pl.length := by simp [ofN]
  have L : ∃ at_ p G5, sFor (iOf (eBin gAdd (eCall bList (aCons (eVar 1) aNil)) (eLst (aCons (eBin FL.gSub (eCall bLen (aCons (eVar 0) aNil)) (eC (.int 1))) aNil))) kSeq) (gNm 4) g__law_sums_1 (EnvU lh cu ls 0 none) G1 = .nx (EnvU lh cu ls at_ p) G5 ∧ Ex0 G G5 ∧ G5[ls]? = some (.lst ((smC ps c).map .int)) := by
    have hf0 : eBin gAdd (eCall bList (aCons (eVar 1) aNil)) (eLst (aCons (eBin FL.gSub (eCall bLen (aCons (eVar 0) aNil)) (eC (.int 1))) aNil)) (EnvU lh cu ls 0 none) G1 = .ok (.ref G3.length) G4 := by
      have e1 : eCall bList (aCons (eVar 1) aNil) (EnvU lh cu ls 0 none) G1 = .ok (.ref G1.length) G2 := by simp [EnvU, b2]
      have e2 : eLst (aCons (eBin FL.gSub (eCall bLen (aCons (eVar 0) aNil)) (eC (.int 1))) aNil) (EnvU lh cu ls 0 none) G2 = .ok (.ref G2.length) G3 := by simp [EnvU, bl2, hG3]
      rw [eBin_, e1, r_bind_ok, e2, r_bind_ok, ga]
    refine sFor_ref (l := G3.length) (xs := ofN pl) (G1 := G4) (fun i ev G' => ∃ (b : Nat) (p : Option U) (done : List Int), ev = EnvU lh cu ls (b : Nat) p ∧ Ex0 G G' ∧ G'[G3.length]? = some (.lst (ofN pl)) ∧ G'[ls]? = some (.lst (done.map .int)) ∧ smC ps c = done ++ smp (Hs ps) b (pl.drop i) ∧ done.length = i ∧ b ≤ ps.length) (fun r => ∃ at_ p G5, r = .nx (EnvU lh cu ls at_ p) G5 ∧ Ex0 G G5 ∧ G5[ls]? = some (.lst ((smC ps c).map .int))) hf0 r4 (fun i ev G' hI => by
      obtain ⟨b, p, done, _, _, r, _⟩ := hI
      exact r) ⟨0, none, [], rfl, x04, r4, a4, by rw [List.drop_zero, hpl]; rfl, rfl, Nat.zero_le _⟩ ?_ ?_
    · intro i hi ev G' hI
      obtain ⟨b, p, done, he, x, r, a, hsm, hdl, hbn⟩ := hI
      rw [hlen] at hi
      have hget : (ofN pl)[i]'(by rw [hlen]; exact hi) = .int ((pl[i] : Nat) : Int) := by simp [ofN]
      rw [hget]
      have hdrop : pl.drop i = pl[i] :: pl.drop (i + 1) := List.drop_eq_getElem_cons hi
      have hpi := hpln _ (List.getElem_mem hi)
      generalize pl[i] = q at hdrop hpi
      rw [hdrop] at hsm
      obtain ⟨qi, hqi⟩ : ∃ qi : Int, qi = (q : Int) := ⟨_, rfl⟩
      obtain ⟨bi, hbi⟩ : ∃ bi : Int, bi = (b : Int) := ⟨_, rfl⟩
      rw [← hqi]
      rw [← hbi] at he
      have i1 := fL_at (e := q) (i := qi) (x.at_ hh) (by omega) hqi
      have i2 := fL_at (e := b) (i := bi) (x.at_ hh) (by omega) hbi
      have ap : mAppend (.ref ls) [.int (Hs ps q - Hs ps b)] G' = .ok .non (G'.set ls (.lst ((done ++ [Hs ps q - Hs ps b]).map .int))) := by
        rw [mAppend_ref a (by rw [List.length_map]; have : pl.length = c.length + 1 := by rw [hpl]; simp
                              omega), List.map_append]; rfl
      have il := isLst_ref a
      have hsm2 : smC ps c = (done ++ [Hs ps q - Hs ps b]) ++ smp (Hs ps) q (pl.drop (i + 1)) := by rw [hsm]; simp [smp]
      generalize Hs ps q - Hs ps b = df at ap hsm2
      have i3 : ∀ (z1 z2 : Int), True := fun _ _ => trivial
      have fine : (gNm 4 (.int qi) (EnvU lh cu ls bi p) G').andThen (EnvU lh cu ls bi p) (fun env1 G1 => g__law_sums_1 env1 G1) = .nx (EnvU lh cu ls qi (some (.int qi))) (G'.set ls (.lst ((done ++ [Hs ps q - Hs ps b]).map .int))) := by
        have ap2 : mAppend (.ref ls) [.int (Hs ps q - Hs ps b)] G' = .ok .non (G'.set ls (.lst ((done ++ [Hs ps q - Hs ps b]).map .int))) := by
          rw [mAppend_ref a (by rw [List.length_map]; have : pl.length = c.length + 1 := by rw [hpl]; simp
                                omega), List.map_append]; rfl
        generalize (done ++ [Hs ps q - Hs ps b]).map U.int = zs at ap2 ⊢
        generalize Hs ps q = z1 at i1 ap2 ⊢
        generalize Hs ps b = z2 at i2 ap2 ⊢
        simp [EnvU, g__law_sums_1, eMeth_, il, i1, i2, ap2]
      subst he
      rw [fine]
      have hsm3 : smC ps c = (done ++ [Hs ps q - Hs ps b]) ++ smp (Hs ps) q (pl.drop (i + 1)) := by rw [hsm]; simp [smp]
      refine ⟨q, _, done ++ [Hs ps q - Hs ps b], by rw [hqi], ex0_set x (by omega) _, ?_, set_get a, hsm3, by simp [hdl], hpi⟩
      rw [List.getElem?_set_ne (by omega)]; exact r
    · intro ev G' hI
      obtain ⟨b, p, done, he, x, r, a, hsm, hdl, hbn⟩ := hI
      subst he
      rw [hlen, List.drop_length] at hsm
      have : smC ps c = done := by rw [hsm]; simp [smp]
      rw [← this] at a
      exact ⟨_, p, G', rfl, x, a⟩
  obtain ⟨at_, p, G5, L, x5, a5⟩ := L
  refine ⟨ls, G5, ?_, x5, by omega, a5⟩
  unfold g__law_sums
  rw [seq_nx (e' := [some (.ref lh), some cu, some (.ref ls), none, none]) (G' := G1) (by simp [hG1, hls]), seq_nx (e' := EnvU lh cu ls 0 none) (G' := G1) (by simp [EnvU]), seq_nx L]
  simp [EnvU]
end K09

set_option Elab.async false
set_option linter.all false
set_option maxRecDepth 100000
set_option maxHeartbeats 4000000
set_option autoImplicit false
namespace K09
open PySem PySem.Spec L2 FL

/-! ### pipes, item by item and stage by stage -/
/-- times, of any size -/
def OkS (qs : List Int) : Prop := 1 ≤ qs.length ∧ qs.length ≤ 6 ∧ ∀ x ∈ qs, 1 ≤ x
theorem OkS.pos {qs : List Int} (h : OkS qs) : ∀ s, s < qs.length → 1 ≤ tOf qs s := fun s hs => by
  rw [tOf_lt hs]; exact h.2.2 _ (List.getElem_mem hs)
theorem rdy_nn {t : Nat → Int} {n r i : Nat} (ht : ∀ s, s < n → 1 ≤ t s) : ∀ s, s ≤ n → 0 < n → 0 ≤ rdy t n r i s
  | 0, _, hn => by
    show 0 ≤ st t n r i
    unfold st
    by_cases c : 0 < r ∧ r ≤ i
    · rw [if_pos c]
      have := B_nn (r := r) ht (s := n - 1) (by omega) (i - r)
      have := ht (n - 1) (by omega)
      omega
    · rw [if_neg c]; omega
  | s + 1, h, _ => by
    have := B_nn (r := r) ht (s := s) (by omega) i
    have := ht s (by omega)
    show 0 ≤ B t n r i s + t s
    omega
/-- when a stage is free for the next item -/
def fre (t : Nat → Int) (n r : Nat) : Nat → Nat → Int
  | 0, _ => 0
  | i + 1, s => B t n r i s + t s
theorem B_max {t : Nat → Int} {n r i s : Nat} (ht : ∀ s, s < n → 1 ≤ t s) (hr : 0 < r) (hs : s < n) : B t n r i s = max (rdy t n r i s) (fre t n r i s) := by
  cases i with
  | zero =>
    have := rdy_nn (r := r) (i := 0) ht s (by omega) (by omega)
    rw [B_rdy0 hr]
    show _ = max _ 0
    omega
  | succ i => exact B_rdy s
def EnvB2 (lq : Nat) (m : Int) (lr la : Nat) (one row fr i b : Option U) : Ev := [some (.ref lq), some (.int m), some (.ref lr), some (.ref la), one, row, fr, i, b]
theorem begins_in {t : Nat → Int} {n m s : Nat} {lq lr la lw : Nat} {mi : Int} {i0 b0 : Option U} {G : Gp} (ht : ∀ s, s < n → 1 ≤ t s) (m1 : 1 ≤ m) (hm : m ≤ 20) (hmi : mi = (m : Int)) (hs : s < n) (ha : G[la]? = some (.lst (fL (fun i => rdy t n m i s) m))) (hne : la ≠ lw) (hw : G[lw]? = some (.lst [])) :
    ∃ f' i' b' G', sFor (iOfs (aCons (eVar 1) aNil) kRng1) (gNm 7) g__law_begins_1 (EnvB2 lq mi lr la (some (.int (t s))) (some (.ref lw)) (some (.int 0)) i0 b0) G = .nx (EnvB2 lq mi lr la (some (.int (t s))) (some (.ref lw)) f' i' b') G' ∧ G' = G.set lw (.lst ((Bs t n m m s).map .int)) := by
  refine sFor_rng1 (j := mi) (G1 := G) (fun i ev G' => ∃ i' b', ev = EnvB2 lq mi lr la (some (.int (t s))) (some (.ref lw)) (some (.int (fre t n m i s))) i' b' ∧ G' = G.set lw (.lst ((Bs t n m i s).map .int)))
    (fun r => ∃ f' i' b' G', r = .nx (EnvB2 lq mi lr la (some (.int (t s))) (some (.ref lw)) f' i' b') G' ∧ G' = G.set lw (.lst ((Bs t n m m s).map .int))) (by simp [EnvB2]) (by omega) (by omega) ⟨i0, b0, rfl, by
      have : ((Bs t n m 0 s).map U.int) = [] := rfl
      rw [this, set_same hw]⟩ ?_ ?_
  · intro i hi ev G1 hI
    obtain ⟨i', b', he, hG⟩ := hI
    have hi' : i < m := by omega
    have hwl := (List.getElem?_eq_some_iff.mp hw).1
    have a1 : G1[la]? = some (.lst (fL (fun i => rdy t n m i s) m)) := by rw [hG, List.getElem?_set_ne (Ne.symm hne)]; exact ha
    have w1 : G1[lw]? = some (.lst ((Bs t n m i s).map .int)) := by rw [hG]; exact List.getElem?_set_self hwl
    obtain ⟨ii, hii⟩ : ∃ ii : Int, ii = (i : Int) := ⟨_, rfl⟩
    have ix : gIdx (.ref la) (.int ii) G1 = .ok (.int (rdy t n m i s)) G1 := fL_at (f := fun i => rdy t n m i s) (k := m) a1 hi' hii
    have hB := B_max (i := i) (s := s) ht (r := m) m1 hs
    have ap : mAppend (.ref lw) [.int (B t n m i s)] G1 = .ok .non (G1.set lw (.lst ((Bs t n m (i + 1) s).map .int))) := by
      rw [mAppend_ref w1 (by rw [List.length_map, Bs_len]; omega), Bs_succ]
    have il := isLst_ref w1
    have nxt : fre t n m (i + 1) s = B t n m i s + t s := rfl
    rw [← hii]
    have fine : (gNm 7 (.int ii) (EnvB2 lq mi lr la (some (.int (t s))) (some (.ref lw)) (some (.int (fre t n m i s))) i' b') G1).andThen (EnvB2 lq mi lr la (some (.int (t s))) (some (.ref lw)) (some (.int (fre t n m i s))) i' b') (fun env1 G1 => g__law_begins_1 env1 G1) = .nx (EnvB2 lq mi lr la (some (.int (t s))) (some (.ref lw)) (some (.int (fre t n m (i + 1) s))) (some (.int ii)) (some (.int (B t n m i s)))) (G1.set lw (.lst ((Bs t n m (i + 1) s).map .int))) := by
      rw [nxt]
      generalize B t n m i s = z0 at hB ap ⊢
      generalize rdy t n m i s = z1 at hB ix
      generalize fre t n m i s = z2 at hB ⊢
      generalize (Bs t n m (i + 1) s).map U.int = zs at ap ⊢
      subst hB
      simp [EnvB2, g__law_begins_1, ix, eMeth_, il, ap]
    subst he
    rw [fine]
    exact ⟨_, _, rfl, by rw [hG, List.set_set]⟩
  · intro ev G1 hI
    obtain ⟨i', b', he, hG⟩ := hI
    subst he
    rw [show mi.toNat = m by omega] at hG
    exact ⟨_, i', b', G1, rfl, hG⟩
theorem begins_spec {qs : List Int} {lq m : Nat} {mi : Int} {G : Gp} (ok : OkS qs) (hq : G[lq]? = some (.lst (qs.map .int))) (m1 : 1 ≤ m) (hm : m ≤ 20) (hmi : mi = (m : Int)) : ∃ G', F__law_begins [.ref lq, .int mi] G = .ok (tabU (tOf qs) qs.length m m) G' ∧ Ex0 G G' := by
  rw [run__law_begins]
  have tp := ok.pos
  have n6 := ok.2.1
  have n1 := ok.1
  obtain ⟨n, hn⟩ : ∃ n, n = qs.length := ⟨_, rfl⟩
  rw [← hn] at tp n6 n1 ⊢
  obtain ⟨t, ht⟩ : ∃ t, t = tOf qs := ⟨_, rfl⟩
  rw [← ht] at tp ⊢
  obtain ⟨lr, hlr⟩ : ∃ lr, lr = G.length := ⟨_, rfl⟩
  obtain ⟨G1, hG1⟩ : ∃ G1, G1 = G ++ [OU.lst []] := ⟨_, rfl⟩
  have x1 : Ex0 G G1 := by rw [hG1]; exact ex0_push _ _
  have r1 : G1[lr]? = some (.lst []) := by rw [hG1, hlr]; exact push_at _ _
  obtain ⟨src, c1, hsx⟩ := srcx_rng (n := m) (G := G1) (by omega)
  rw [← hmi] at c1
  obtain ⟨G2, e2, x2, at2⟩ := comp_pure (own := [7]) (fi := iOfs (aCons (eVar 1) aNil) kRng1) (G := G1) (G1 := G1) (gf := gNm 7) (ft := tYesB) (fe := eC (.int 0)) (env := [some (.ref lq), some (.int mi), some (.ref lr), none, none, none, none, none, none]) (ys := List.range m) (g := fun i => U.int (i : Nat)) (fun _ => true) (fun _ => U.int 0) (iOfs_ok (us := [.int mi]) (by simp) c1) hsx (by simp; omega) (fun i hi G2 x => ⟨_, rfl, rfl, fun _ => rfl⟩)
  rw [filt_true] at at2
  have st0 : ∀ i, i < m → rdy t n m i 0 = 0 := fun i hi => by
    show st t n m i = 0
    unfold st
    rw [if_neg (by omega)]
  have at2 : G2[G1.length]? = some (.lst (fL (fun i => rdy t n m i 0) m)) := by
    rw [at2]
    congr 2
    unfold fL
    exact List.map_congr_left fun i hi => by
      show U.int 0 = U.int (rdy t n m i 0)
      rw [st0 i (List.mem_range.mp hi)]
  have hl1 : lr < G1.length := (List.getElem?_eq_some_iff.mp r1).1
  have hlm : (qs.map U.int).length = n := by rw [List.length_map, hn]
  have L : ∃ la a b c d e G3, sFor (iOf (eVar 0) kSeq) (gNm 4) g__law_begins_2 (EnvB2 lq mi lr G1.length none none none none none) G2 = .nx (EnvB2 lq mi lr la a b c d e) G3 ∧ Ex0 G G3 ∧ G3[lr]? = some (.lst ((List.range n).map fun s => .tup ((Bs t n m m s).map .int))) := by
    refine sFor_ref (l := lq) (xs := qs.map .int) (G1 := G2) (fun s ev G' => ∃ (la : Nat) (a b c d e : Option U), ev = EnvB2 lq mi lr la a b c d e ∧ Ex0 G G' ∧ lr < la ∧ G'[la]? = some (.lst (fL (fun i => rdy t n m i s) m)) ∧ G'[lr]? = some (.lst ((List.range s).map fun s => .tup ((Bs t n m m s).map .int)))) (fun r => ∃ la a b c d e G3, r = .nx (EnvB2 lq mi lr la a b c d e) G3 ∧ Ex0 G G3 ∧ G3[lr]? = some (.lst ((List.range n).map fun s => .tup ((Bs t n m m s).map .int)))) (by simp [EnvB2]) ((x1.trans x2).at_ hq) (fun i ev G' hI => by
      obtain ⟨la, a, b, c, d, e, _, x, _⟩ := hI
      exact x.at_ hq) ⟨G1.length, none, none, none, none, none, rfl, x1.trans x2, hl1, at2, x2.at_ r1⟩ ?_ ?_
    · intro s hs ev G3 hI
      obtain ⟨la, a, b, c, d, e, he, x3, hla, a3, r3⟩ := hI
      have hs' : s < n := by omega
      have hget : (qs.map U.int)[s] = .int (t s) := by rw [List.getElem_map, ht, tOf_lt (by omega)]
      rw [hget]
      obtain ⟨G4, hG4⟩ : ∃ G4, G4 = G3 ++ [OU.lst []] := ⟨_, rfl⟩
      have x4 : Ex0 G3 G4 := by rw [hG4]; exact ex0_push _ _
      have w4 : G4[G3.length]? = some (.lst []) := by rw [hG4]; exact push_at _ _
      have ha3 := (List.getElem?_eq_some_iff.mp a3).1
      have hr3 := (List.getElem?_eq_some_iff.mp r3).1
      have hx3 := x3.1
      obtain ⟨f', i', b', G5, e5, hG5⟩ := begins_in (lq := lq) (lr := lr) (i0 := d) (b0 := e) tp m1 hm hmi hs' (x4.at_ a3) (lw := G3.length) (by omega) w4
      have w5 : G5[G3.length]? = some (.lst ((Bs t n m m s).map .int)) := by rw [hG5]; exact set_get w4
      have x5 : Ex0 G3 G5 := by rw [hG5]; exact ex0_set x4 (Nat.le_refl _) _
      have r5 := x5.at_ r3
      have bt : bTuple [.ref G3.length] G5 = .ok (.tup ((Bs t n m m s).map .int)) G5 := bTuple_seq (seqU_of w5)
      have ap : mAppend (.ref lr) [.tup ((Bs t n m m s).map .int)] G5 = .ok .non (G5.set lr (.lst ((List.range (s + 1)).map fun s => .tup ((Bs t n m m s).map .int)))) := by
        rw [mAppend_ref r5 (by simp; omega), List.range_succ, List.map_append]; rfl
      have il := isLst_ref r5
      obtain ⟨G6, hG6⟩ : ∃ G6, G6 = G5.set lr (.lst ((List.range (s + 1)).map fun s => U.tup ((Bs t n m m s).map .int))) := ⟨_, rfl⟩
      rw [← hG6] at ap
      have w6 : G6[G3.length]? = some (.lst ((Bs t n m m s).map .int)) := by rw [hG6, List.getElem?_set_ne (by omega)]; exact w5
      have r6 : G6[lr]? = some (.lst ((List.range (s + 1)).map fun s => .tup ((Bs t n m m s).map .int))) := by rw [hG6]; exact set_get r5
      obtain ⟨src7, c7, hs7⟩ := srcx_ref w6
      obtain ⟨G7, e7, x7, at7⟩ := comp_pure (own := [8]) (fi := iOf (eVar 5) kSeq) (G := G6) (G1 := G6) (gf := gNm 8) (ft := tYesB) (fe := eBin gAdd (eVar 8) (eVar 4)) (env := EnvB2 lq mi lr la (some (.int (t s))) (some (.ref G3.length)) f' i' b') (ys := Bs t n m m s) (g := U.int) (fun _ => true) (fun z => U.int (z + t s)) (iOf_ok (by simp [EnvB2]) c7) hs7 (by rw [Bs_len]; omega) (fun j hj G8 x8 => ⟨_, rfl, rfl, fun _ => by simp [EnvB2, wipeE]⟩)
      rw [filt_true] at at7
      have at7 : G7[G6.length]? = some (.lst (fL (fun i => rdy t n m i (s + 1)) m)) := by
        rw [at7]
        congr 2
        unfold fL Bs
        rw [List.map_map]
        rfl
      have fine : (gNm 4 (.int (t s)) (EnvB2 lq mi lr la a b c d e) G3).andThen (EnvB2 lq mi lr la a b c d e) (fun env1 G1 => g__law_begins_2 env1 G1) = .nx (EnvB2 lq mi lr G6.length (some (.int (t s))) (some (.ref G3.length)) f' i' b') G7 := by
        rw [gNm_, r_then_ok]
        show g__law_begins_2 (EnvB2 lq mi lr la (some (.int (t s))) b c d e) G3 = _
        unfold g__law_begins_2
        rw [seq_nx (e' := EnvB2 lq mi lr la (some (.int (t s))) (some (.ref G3.length)) c d e) (G' := G4) (by simp [EnvB2, hG4]), seq_nx (e' := EnvB2 lq mi lr la (some (.int (t s))) (some (.ref G3.length)) (some (.int 0)) d e) (G' := G4) (by simp [EnvB2]), seq_nx e5, seq_nx (e' := EnvB2 lq mi lr la (some (.int (t s))) (some (.ref G3.length)) f' i' b') (G' := G6) (by
          generalize U.tup ((Bs t n m m s).map .int) = zt at bt ap
          simp [EnvB2, eMeth_, il, bt, ap])]
        rw [sAsg_, e7]
        rfl
      subst he
      rw [fine]
      have l6 : G6.length = G5.length := by rw [hG6]; simp
      have x6 : Ex0 G G6 := by rw [hG6]; exact ex0_set (x3.trans x5) (by omega) _
      exact ⟨G6.length, _, _, _, _, _, rfl, x6.trans x7, by have := x5.1; omega, at7, x7.at_ r6⟩
    · intro ev G3 hI
      obtain ⟨la, a, b, c, d, e, he, x3, hla, a3, r3⟩ := hI
      subst he
      rw [hlm] at r3
      exact ⟨la, a, b, c, d, e, G3, rfl, x3, r3⟩
  obtain ⟨la, a, b, c, d, e, G3, L, x3, r3⟩ := L
  have bt : bTuple [.ref lr] G3 = .ok (tabU t n m m) G3 := bTuple_seq (seqU_of r3)
  refine ⟨G3, ?_, x3⟩
  unfold g__law_begins
  rw [seq_nx (e' := [some (.ref lq), some (.int mi), some (.ref lr), none, none, none, none, none, none]) (G' := G1) (by simp [hG1, hlr]), seq_nx (e' := EnvB2 lq mi lr G1.length none none none none none) (G' := G2) (by rw [sAsg_, e2]; rfl), seq_nx L]
  simp [EnvB2, bt]
/-! ### with few items -/
structure Lt (G0 G : Gp) (lf L le : Nat) (t : Nat → Int) (n r : Nat) (fr : Nat → Int) (k : Nat → Nat) (i : Nat) : Prop where
  x : Ex0 G0 G
  hf : G0.length ≤ lf ∧ lf < L
  hL : L + n < le
  free : G[lf]? = some (.lst (fL fr n))
  tb : Tab G L t n r k
  ends : G[le]? = some (.lst (fL (fun j => B t n r j (n - 1) + t (n - 1)) i))
def EnvL2 (lq : Nat) (m r : Int) (lf L le : Nat) (i a s b ro : Option U) : Ev := [some (.ref lq), some (.int m), some (.int r), some (.ref lf), some (.ref L), some (.ref le), i, a, s, b, ro, none]
theorem fL_set {f g : Nat → Int} {n s : Nat} {z : Int} (hs : s < n) (h : ∀ q, q < n → g q = if q = s then z else f q) : (fL f n).set s (.int z) = fL g n := by
  apply List.ext_getElem?
  intro q
  by_cases hq : q < n
  · rw [fL_get hq, h q hq]
    by_cases c : q = s
    · subst c
      rw [if_pos rfl, List.getElem?_set_self (by rw [fL_len]; exact hs)]
    · rw [if_neg c, List.getElem?_set_ne (Ne.symm c), fL_get hq]
  · rw [List.getElem?_eq_none (by simp [fL_len]; omega), List.getElem?_eq_none (by simp [fL_len]; omega)]
theorem late_stage {qs : List Int} {lq lf L le i s r : Nat} {mi ri : Int} {b ro : Option U} {G0 G : Gp} (ok : OkS qs) (hr : 0 < r) (hs : s < qs.length) (hi : i < 1000) (hq : G0[lq]? = some (.lst (qs.map .int)))
    (h : Lt G0 G lf L le (tOf qs) qs.length r (fun q => if q < s then fre (tOf qs) qs.length r (i + 1) q else fre (tOf qs) qs.length r i q) (fun q => if q < s then i + 1 else i) i) :
    ∃ b' ro' G', g__law_late_2 (EnvL2 lq mi ri lf L le (some (.int (i : Nat))) (some (.int (rdy (tOf qs) qs.length r i s))) (some (.int (s : Nat))) b ro) G = .nx (EnvL2 lq mi ri lf L le (some (.int (i : Nat))) (some (.int (rdy (tOf qs) qs.length r i (s + 1)))) (some (.int (s : Nat))) b' ro') G' ∧
      Lt G0 G' lf L le (tOf qs) qs.length r (fun q => if q < s + 1 then fre (tOf qs) qs.length r (i + 1) q else fre (tOf qs) qs.length r i q) (fun q => if q < s + 1 then i + 1 else i) i := by
  have tp := ok.pos
  have tq := psr_at (h.x.at_ hq) hs rfl
  obtain ⟨n, hn⟩ : ∃ n, n = qs.length := ⟨_, rfl⟩
  obtain ⟨t, ht⟩ : ∃ t, t = tOf qs := ⟨_, rfl⟩
  rw [← hn, ← ht] at h ⊢
  rw [← hn] at tp hs
  rw [← ht] at tp tq
  have hx := h.x.1
  have hf := h.hf
  have hLe := h.hL
  have fr0 : gIdx (.ref lf) (.int (s : Nat)) G = .ok (.int (fre t n r i s)) G := by
    have := fL_at h.free hs rfl
    simpa using this
  have ix := h.tb.idx hs rfl
  have row := h.tb.row s hs
  have hks : (if s < s then i + 1 else i) = i := if_neg (Nat.lt_irrefl s)
  rw [hks] at row
  have hB := B_max (i := i) (s := s) tp hr hs
  have ap : mAppend (.ref (L + 1 + s)) [.int (B t n r i s)] G = .ok .non (G.set (L + 1 + s) (.lst ((Bs t n r i s).map U.int ++ [.int (B t n r i s)]))) := mAppend_ref row (by rw [List.length_map, Bs_len]; omega)
  have il := isLst_ref row
  have ta := h.tb.add (k' := fun q => if q < s + 1 then i + 1 else i) hs (fun q _ => by
    by_cases c : q = s
    · subst c; simp
    · by_cases c2 : q < s
      · rw [if_pos (by omega), if_neg c, if_pos c2]
      · rw [if_neg (by omega), if_neg c, if_neg c2])
  simp only [hks] at ta
  obtain ⟨G1, hG1⟩ : ∃ G1, G1 = G.set (L + 1 + s) (.lst ((Bs t n r i s).map U.int ++ [.int (B t n r i s)])) := ⟨_, rfl⟩
  rw [← hG1] at ap ta
  have tq1 : gIdx (.ref lq) (.int (s : Nat)) G1 = .ok (.int (t s)) G1 := by
    have x1 : Ex0 G0 G1 := by rw [hG1]; exact ex0_set h.x (by omega) _
    have := psr_at (x1.at_ hq) (s := s) (j := (s : Nat)) (by omega) rfl
    rw [← ht] at this
    exact this
  have f1 : G1[lf]? = some (.lst (fL (fun q => if q < s then fre t n r (i + 1) q else fre t n r i q) n)) := by rw [hG1, List.getElem?_set_ne (by omega)]; exact h.free
  have nxt : rdy t n r i (s + 1) = B t n r i s + t s := rfl
  have su := setU_ref (G := G1) (v := .int (B t n r i s + t s)) (i := ((s : Nat) : Int)) f1 (by omega) (by rw [fL_len]; omega)
  rw [Int.toNat_natCast, fL_set (g := fun q => if q < s + 1 then fre t n r (i + 1) q else fre t n r i q) hs (fun q _ => by
    by_cases c : q = s
    · subst c
      rw [if_pos (by omega), if_pos rfl]
      rfl
    · by_cases c2 : q < s
      · rw [if_pos (by omega), if_neg c, if_pos c2]
      · rw [if_neg (by omega), if_neg c, if_neg c2])] at su
  obtain ⟨G2, hG2⟩ : ∃ G2, G2 = G1.set lf (.lst (fL (fun q => if q < s + 1 then fre t n r (i + 1) q else fre t n r i q) n)) := ⟨_, rfl⟩
  rw [← hG2] at su
  refine ⟨some (.int (B t n r i s)), some (.ref (L + 1 + s)), G2, ?_, ⟨?_, hf, hLe, by rw [hG2]; exact set_get f1, ⟨?_, fun q hq' => ?_⟩, ?_⟩⟩
  · rw [nxt]
    generalize ((s : Nat) : Int) = si at fr0 ix tq1 su ⊢
    generalize ((i : Nat) : Int) = ii
    generalize B t n r i s = z0 at hB ap su ⊢
    generalize rdy t n r i s = z1 at hB ⊢
    generalize fre t n r i s = z2 at hB fr0
    generalize t s = z3 at tq1 su ⊢
    subst hB
    unfold g__law_late_2
    rw [seq_nx (e' := EnvL2 lq mi ri lf L le (some (.int ii)) (some (.int z1)) (some (.int si)) (some (.int (max z1 z2))) ro) (G' := G) (by simp [EnvL2, fr0]), seq_nx (e' := EnvL2 lq mi ri lf L le (some (.int ii)) (some (.int z1)) (some (.int si)) (some (.int (max z1 z2))) (some (.ref (L + 1 + s)))) (G' := G) (by simp [EnvL2, ix]), seq_nx (e' := EnvL2 lq mi ri lf L le (some (.int ii)) (some (.int z1)) (some (.int si)) (some (.int (max z1 z2))) (some (.ref (L + 1 + s)))) (G' := G1) (by simp [EnvL2, eMeth_, il, ap]), seq_nx (e' := EnvL2 lq mi ri lf L le (some (.int ii)) (some (.int (max z1 z2 + z3))) (some (.int si)) (some (.int (max z1 z2))) (some (.ref (L + 1 + s)))) (G' := G1) (by simp [EnvL2, tq1])]
    simp [EnvL2, su]
  · rw [hG2, hG1]
    exact ex0_set (ex0_set h.x (by omega) _) (by omega) _
  · rw [hG2, List.getElem?_set_ne (by omega)]; exact ta.top
  · rw [hG2, List.getElem?_set_ne (by omega)]; exact ta.row q hq'
  · rw [hG2, List.getElem?_set_ne (by omega), hG1, List.getElem?_set_ne (by omega)]
    exact h.ends
theorem late_item {qs : List Int} {lq lf L le i r : Nat} {mi ri : Int} {a s0 b ro : Option U} {G0 G : Gp} (ok : OkS qs) (hr : 0 < r) (hri : ri = (r : Int)) (hi : i < 1000) (hq : G0[lq]? = some (.lst (qs.map .int)))
    (h : Lt G0 G lf L le (tOf qs) qs.length r (fre (tOf qs) qs.length r i) (fun _ => i) i) :
    ∃ a' s' b' ro' G', g__law_late_3 (EnvL2 lq mi ri lf L le (some (.int (i : Nat))) a s0 b ro) G = .nx (EnvL2 lq mi ri lf L le (some (.int (i : Nat))) a' s' b' ro') G' ∧ Lt G0 G' lf L le (tOf qs) qs.length r (fre (tOf qs) qs.length r (i + 1)) (fun _ => i + 1) (i + 1) := by
  have n1 := ok.1
  have n6 := ok.2.1
  have s1 : sIf (bVal (eBin gGe (eVar 6) (eVar 2))) g__law_late_1 sNil (EnvL2 lq mi ri lf L le (some (.int (i : Nat))) (some (.int 0)) s0 b ro) G = .nx (EnvL2 lq mi ri lf L le (some (.int (i : Nat))) (some (.int (rdy (tOf qs) qs.length r i 0))) s0 b ro) G := by
    show _ = SR.nx (EnvL2 lq mi ri lf L le (some (.int (i : Nat))) (some (.int (st (tOf qs) qs.length r i))) s0 b ro) G
    by_cases ci : r ≤ i
    · have hst : st (tOf qs) qs.length r i = B (tOf qs) qs.length r (i - r) (qs.length - 1) + tOf qs (qs.length - 1) := by unfold st; rw [if_pos ⟨hr, ci⟩]
      have ix : gIdx (.ref le) (.int ((i : Nat) - ri)) G = .ok (.int (st (tOf qs) qs.length r i)) G := by
        rw [hst]
        exact fL_at (e := i - r) h.ends (by omega) (by omega)
      generalize st (tOf qs) qs.length r i = z at ix ⊢
      have hle : ri ≤ ((i : Nat) : Int) := by omega
      generalize ((i : Nat) : Int) = ii at ix hle ⊢
      simp [EnvL2, g__law_late_1, hle, ix]
    · have hst : st (tOf qs) qs.length r i = 0 := by unfold st; rw [if_neg (by omega)]
      rw [hst]
      have hle : ¬ ri ≤ ((i : Nat) : Int) := by omega
      generalize ((i : Nat) : Int) = ii at hle ⊢
      simp [EnvL2, hle]
  obtain ⟨ni, hni⟩ : ∃ ni : Int, ni = (qs.length : Int) := ⟨_, rfl⟩
  have bl : bLen [.ref lq] G = .ok (.int ni) G := by rw [bLen_seq (seqU_of (h.x.at_ hq)), List.length_map, hni]
  obtain ⟨ii, hii⟩ : ∃ ii : Int, ii = ((i : Nat) : Int) := ⟨_, rfl⟩
  have L2 : ∃ s' b' ro' G', sFor (iOfs (aCons (eCall bLen (aCons (eVar 0) aNil)) aNil) kRng1) (gNm 8) g__law_late_2 (EnvL2 lq mi ri lf L le (some (.int ii)) (some (.int (rdy (tOf qs) qs.length r i 0))) s0 b ro) G = .nx (EnvL2 lq mi ri lf L le (some (.int ii)) (some (.int (rdy (tOf qs) qs.length r i qs.length))) s' b' ro') G' ∧ Lt G0 G' lf L le (tOf qs) qs.length r (fre (tOf qs) qs.length r (i + 1)) (fun _ => i + 1) i := by
    refine sFor_rng1 (j := ni) (G1 := G) (fun s ev G' => ∃ s' b' ro', ev = EnvL2 lq mi ri lf L le (some (.int ii)) (some (.int (rdy (tOf qs) qs.length r i s))) s' b' ro' ∧ Lt G0 G' lf L le (tOf qs) qs.length r (fun q => if q < s then fre (tOf qs) qs.length r (i + 1) q else fre (tOf qs) qs.length r i q) (fun q => if q < s then i + 1 else i) i) (fun r' => ∃ s' b' ro' G', r' = .nx (EnvL2 lq mi ri lf L le (some (.int ii)) (some (.int (rdy (tOf qs) qs.length r i qs.length))) s' b' ro') G' ∧ Lt G0 G' lf L le (tOf qs) qs.length r (fre (tOf qs) qs.length r (i + 1)) (fun _ => i + 1) i) (by simp [EnvL2, bl]) (by omega) (by omega) ⟨s0, b, ro, rfl, ⟨h.x, h.hf, h.hL, by simpa using h.free, h.tb.same fun q _ => if_neg (Nat.not_lt_zero q), h.ends⟩⟩ ?_ ?_
    · intro s hs ev G' hI
      obtain ⟨s', b', ro', he, h'⟩ := hI
      obtain ⟨b2, ro2, G2, e2, h2⟩ := late_stage (mi := mi) (ri := ri) (b := b') (ro := ro') ok hr (by omega) hi hq h'
      rw [← hii] at e2
      subst he
      have se : (EnvL2 lq mi ri lf L le (some (.int ii)) (some (.int (rdy (tOf qs) qs.length r i s))) s' b' ro').set 8 (some (.int (s : Nat))) = EnvL2 lq mi ri lf L le (some (.int ii)) (some (.int (rdy (tOf qs) qs.length r i s))) (some (.int (s : Nat))) b' ro' := rfl
      rw [gNm_, r_then_ok, se, e2]
      exact ⟨_, _, _, rfl, h2⟩
    · intro ev G' hI
      obtain ⟨s', b', ro', he, h'⟩ := hI
      subst he
      rw [show ni.toNat = qs.length by omega] at h' ⊢
      refine ⟨s', b', ro', G', rfl, ⟨h'.x, h'.hf, h'.hL, ?_, h'.tb.same fun q hq' => by rw [if_pos hq'], h'.ends⟩⟩
      rw [h'.free]
      congr 2
      unfold fL
      exact List.map_congr_left fun q hq' => by
        show U.int (if q < qs.length then fre (tOf qs) qs.length r (i + 1) q else fre (tOf qs) qs.length r i q) = _
        rw [if_pos (List.mem_range.mp hq')]
  obtain ⟨s', b', ro', G', e2, h2⟩ := L2
  have hend : rdy (tOf qs) qs.length r i qs.length = B (tOf qs) qs.length r i (qs.length - 1) + tOf qs (qs.length - 1) := by
    obtain ⟨n', hn'⟩ : ∃ n', qs.length = n' + 1 := ⟨qs.length - 1, by omega⟩
    rw [hn']
    rfl
  have ap : mAppend (.ref le) [.int (rdy (tOf qs) qs.length r i qs.length)] G' = .ok .non (G'.set le (.lst (fL (fun j => B (tOf qs) qs.length r j (qs.length - 1) + tOf qs (qs.length - 1)) (i + 1)))) := by
    rw [mAppend_ref h2.ends (by rw [fL_len]; omega), fL_succ, hend]
  have il := isLst_ref h2.ends
  have hx := h2.x.1
  have hf := h2.hf
  have hLe := h2.hL
  rw [← hii] at s1 ⊢
  refine ⟨some (.int (rdy (tOf qs) qs.length r i qs.length)), s', b', ro', _, ?_, ⟨ex0_set h2.x (by omega) _, hf, hLe, by rw [List.getElem?_set_ne (by omega)]; exact h2.free, ⟨by rw [List.getElem?_set_ne (by omega)]; exact h2.tb.top, fun q hq' => by rw [List.getElem?_set_ne (by omega)]; exact h2.tb.row q hq'⟩, set_get h2.ends⟩⟩
  unfold g__law_late_3
  rw [seq_nx (e' := EnvL2 lq mi ri lf L le (some (.int ii)) (some (.int 0)) s0 b ro) (G' := G) (by simp [EnvL2]), seq_nx s1, seq_nx e2]
  generalize rdy (tOf qs) qs.length r i qs.length = z at ap ⊢
  generalize fL (fun j => B (tOf qs) qs.length r j (qs.length - 1) + tOf qs (qs.length - 1)) (i + 1) = zs at ap ⊢
  have fineE : sExpr (eMeth mAppend (eVar 5) (aCons (eVar 7) aNil)) (EnvL2 lq mi ri lf L le (some (.int ii)) (some (.int z)) s' b' ro') G' = .nx (EnvL2 lq mi ri lf L le (some (.int ii)) (some (.int z)) s' b' ro') (G'.set le (.lst zs)) := by simp [EnvL2, eMeth_, il, ap]
  exact fineE
theorem late_spec {qs : List Int} {lq m r : Nat} {mi ri : Int} {G : Gp} (ok : OkS qs) (hq : G[lq]? = some (.lst (qs.map .int))) (m1 : 1 ≤ m) (hm : m ≤ 20) (hmi : mi = (m : Int)) (r1 : 1 ≤ r) (hri : ri = (r : Int)) :
    ∃ G', F__law_late [.ref lq, .int mi, .int ri] G = .ok (.tup [tB qs r m, .int (eN qs r m)]) G' ∧ Ex0 G G' := by
  rw [run__law_late]
  have n1 := ok.1
  have n6 := ok.2.1
  obtain ⟨src, c1, hsx⟩ := srcx_ref hq
  obtain ⟨G1, e1, x1, at1⟩ := comp_pure (own := [11]) (fi := iOf (eVar 0) kSeq) (G := G) (G1 := G) (gf := gNm 11) (ft := tYesB) (fe := eC (.int 0)) (env := [some (.ref lq), some (.int mi), some (.int ri), none, none, none, none, none, none, none, none, none]) (ys := qs) (g := U.int) (fun _ => true) (fun _ => U.int 0) (iOf_ok (by simp) c1) hsx (by omega) (fun i hi G2 x => ⟨_, rfl, rfl, fun _ => rfl⟩)
  rw [filt_true] at at1
  have at1 : G1[G.length]? = some (.lst (fL (fre (tOf qs) qs.length r 0) qs.length)) := by
    rw [at1]
    congr 2
    unfold fL
    apply List.ext_getElem?
    intro q
    by_cases hq' : q < qs.length
    · rw [List.getElem?_map, List.getElem?_eq_getElem hq', List.getElem?_map, List.getElem?_range hq']; rfl
    · rw [List.getElem?_eq_none (by simp; omega), List.getElem?_eq_none (by simp; omega)]
  have q1 := x1.at_ hq
  obtain ⟨src2, c2, hsx2⟩ := srcx_ref q1
  obtain ⟨G2, e2, x2, top, rows⟩ := comp_fresh (own := [11]) (G := G1) (fi := iOf (eVar 0) kSeq) (gf := gNm 11) (fe := eLst aNil) (env := [some (.ref lq), some (.int mi), some (.int ri), some (.ref G.length), none, none, none, none, none, none, none, none]) (g := U.int) (fun _ => ([] : List U)) (iOf_ok (by simp) c2) hsx2 (by omega) (fun i hi G2 x => ⟨_, rfl, by rfl⟩)
  obtain ⟨G3, hG3⟩ : ∃ G3, G3 = G2 ++ [OU.lst []] := ⟨_, rfl⟩
  have x3 : Ex0 G2 G3 := by rw [hG3]; exact ex0_push _ _
  have a3 : G3[G2.length]? = some (.lst []) := by rw [hG3]; exact push_at _ _
  have hgl := (List.getElem?_eq_some_iff.mp at1).1
  have hg2 := (List.getElem?_eq_some_iff.mp (rows (qs.length - 1) (by omega))).1
  have h3 : Lt G G3 G.length G1.length G2.length (tOf qs) qs.length r (fre (tOf qs) qs.length r 0) (fun _ => 0) 0 := ⟨(x1.trans x2).trans x3, ⟨Nat.le_refl _, hgl⟩, by omega, x3.at_ (x2.at_ at1), ⟨x3.at_ top, fun s hs => by rw [x3.at_ (rows s hs)]; rfl⟩, a3⟩
  have L : ∃ i a s b ro G4, sFor (iOfs (aCons (eVar 1) aNil) kRng1) (gNm 6) g__law_late_3 (EnvL2 lq mi ri G.length G1.length G2.length none none none none none) G3 = .nx (EnvL2 lq mi ri G.length G1.length G2.length i a s b ro) G4 ∧ Lt G G4 G.length G1.length G2.length (tOf qs) qs.length r (fre (tOf qs) qs.length r m) (fun _ => m) m := by
    refine sFor_rng1 (j := mi) (G1 := G3) (fun i ev G' => ∃ i0 a s b ro, ev = EnvL2 lq mi ri G.length G1.length G2.length i0 a s b ro ∧ Lt G G' G.length G1.length G2.length (tOf qs) qs.length r (fre (tOf qs) qs.length r i) (fun _ => i) i) (fun r' => ∃ i a s b ro G4, r' = .nx (EnvL2 lq mi ri G.length G1.length G2.length i a s b ro) G4 ∧ Lt G G4 G.length G1.length G2.length (tOf qs) qs.length r (fre (tOf qs) qs.length r m) (fun _ => m) m) (by simp [EnvL2]) (by omega) (by omega) ⟨_, _, _, _, _, rfl, h3⟩ ?_ ?_
    · intro i hi ev G' hI
      obtain ⟨i0, a, s, b, ro, he, h'⟩ := hI
      obtain ⟨a', s', b', ro', G5, e5, h5⟩ := late_item (mi := mi) (a := a) (s0 := s) (b := b) (ro := ro) ok r1 hri (by omega) hq h'
      subst he
      have se : (EnvL2 lq mi ri G.length G1.length G2.length i0 a s b ro).set 6 (some (.int (i : Nat))) = EnvL2 lq mi ri G.length G1.length G2.length (some (.int (i : Nat))) a s b ro := rfl
      rw [gNm_, r_then_ok, se, e5]
      exact ⟨_, _, _, _, _, rfl, h5⟩
    · intro ev G' hI
      obtain ⟨i0, a, s, b, ro, he, h'⟩ := hI
      subst he
      rw [show mi.toNat = m by omega] at h'
      exact ⟨_, _, _, _, _, G', rfl, h'⟩
  obtain ⟨i, a, s, b, ro, G4, L, h4⟩ := L
  obtain ⟨G5, e5, x5⟩ := tab_tuple (own := [10]) (j := 10) (fo := eVar 4) (env := EnvL2 lq mi ri G.length G1.length G2.length i a s b ro) (by omega) (fun u => rfl) (by simp [EnvL2]) h4.tb
  have ee : gIdx (.ref G2.length) (.int (-1)) G5 = .ok (.int (eN qs r m)) G5 := fL_end (x5.at_ h4.ends) (by omega)
  refine ⟨G5, ?_, h4.x.trans x5⟩
  unfold g__law_late
  rw [seq_nx (e' := [some (.ref lq), some (.int mi), some (.int ri), some (.ref G.length), none, none, none, none, none, none, none, none]) (G' := G1) (by rw [sAsg_, e1]; rfl), seq_nx (e' := [some (.ref lq), some (.int mi), some (.int ri), some (.ref G.length), some (.ref G1.length), none, none, none, none, none, none, none]) (G' := G2) (by rw [sAsg_, e2]; rfl), seq_nx (e' := EnvL2 lq mi ri G.length G1.length G2.length none none none none none) (G' := G3) (by simp [EnvL2, hG3]), seq_nx L]
  rw [sRet_, eTup_, aCons_, e5, r_bind_ok]
  have e6 : (aCons (eBin gIdx (eVar 5) (eUn gNeg (eC (.int 1)))) aNil) (EnvL2 lq mi ri G.length G1.length G2.length i a s b ro) G5 = .ok [.int (eN qs r m)] G5 := by simp [EnvL2, ee]
  rw [e6]
  rfl
end K09

set_option Elab.async false
set_option linter.all false
set_option maxRecDepth 100000
set_option maxHeartbeats 4000000
set_option autoImplicit false
namespace K09
open PySem PySem.Spec L2 FL

theorem blen_ref {ps : List Int} {lp : Nat} {G : Gp} (hp : G[lp]? = some (.lst (ps.map .int))) : bLen [.ref lp] G = .ok (.int (ps.length : Nat)) G := by
  have := bLen_seq (G := G) (u := .ref lp) (xs := ps.map .int) (by rw [seqU_ref, hp])
  simpa using this
theorem blen_tb (v : Nat → Nat → Int) (n m : Nat) (G : Gp) : bLen [tbU v n m] G = .ok (.int (n : Nat)) G := by
  have := bLen_seq (G := G) (u := tbU v n m) (xs := (List.range n).map fun s => .tup (rowU v m s)) rfl
  simpa using this
/-! ### the law's judge -/
theorem lholds_spec {ps : List Int} {lp : Nat} {v : Nat → Nat → Int} {m : Nat} {mi : Int} {G : Gp} (ok : OkS ps) (hp : G[lp]? = some (.lst (ps.map .int))) (hm : m ≤ 20) (hmi : mi = (m : Int)) : ∃ b, F__law_holds [.ref lp, .int mi, tbU v ps.length m] G = .ok (.bl b) G ∧ (b = true ↔ Hold (tOf ps) ps.length m v) := by
  rw [run__law_holds]
  have hl := ok.2.1
  have bl : bLen [.ref lp] G = .ok (.int (ps.length : Nat)) G := blen_ref hp
  have pa : ∀ s, s < ps.length → ∀ j : Int, j = (s : Int) → gIdx (.ref lp) (.int j) G = .ok (.int (tOf ps s)) G := fun s hs j hj => psr_at hp hs hj
  obtain ⟨n, hn⟩ : ∃ n, n = ps.length := ⟨_, rfl⟩
  rw [← hn] at hl bl pa ⊢
  have blv := blen_tb v n m G
  obtain ⟨ni, hni⟩ : ∃ ni : Int, ni = (n : Int) := ⟨_, rfl⟩
  rw [← hni] at bl blv
  obtain ⟨tv, htv⟩ : ∃ tv, tv = tbU v n m := ⟨_, rfl⟩
  rw [← htv] at blv ⊢
  let E (a b : Option U) : Ev := [some (.ref lp), some (.int mi), some tv, a, b]
  have L := for_all_rng (fa := aCons (eCall bLen (aCons (eVar 0) aNil)) aNil) (gf := gNm 3) (body := g__law_holds_2) (env := E none none) (G := G) (G1 := G) (j := ni) (n := n) (fun _ e G' => G' = G ∧ ∃ a b, e = E a b) (fun s => ∀ i, i < m → 0 ≤ v i s ∧ cnd (tOf ps) v s i) (fun G' => G' = G) (by simp [E, bl]) hni (by omega) ⟨rfl, none, none, rfl⟩ (fun s hs e G' hI => by
    obtain ⟨hG, a, b, he⟩ := hI
    subst hG
    subst he
    have r0 := tb_row (v := v) (m := m) hs rfl G'
    rw [← htv] at r0
    obtain ⟨si, hsi⟩ : ∃ si : Int, si = (s : Int) := ⟨_, rfl⟩
    rw [← hsi] at r0 ⊢
    have fine : (gNm 3 (.int si) (E a b) G').andThen (E a b) (fun env1 G1 => g__law_holds_2 env1 G1) = g__law_holds_2 (E (some (.int si)) b) G' := by rw [gNm_, r_then_ok]; rfl
    rw [fine]
    have L2 := for_all_rng (fa := aCons (eVar 1) aNil) (gf := gNm 4) (body := g__law_holds_1) (env := E (some (.int si)) b) (G := G') (G1 := G') (j := mi) (n := m) (fun _ e G2 => G2 = G' ∧ ∃ b, e = E (some (.int si)) b) (fun i => 0 ≤ v i s ∧ cnd (tOf ps) v s i) (fun G2 => G2 = G') (by simp [E]) hmi (by omega) ⟨rfl, b, rfl⟩ (fun i hi e G2 hI => by
      obtain ⟨hG, b, he⟩ := hI
      subst hG
      subst he
      obtain ⟨ii, hii⟩ : ∃ ii : Int, ii = (i : Int) := ⟨_, rfl⟩
      have a0 := row_at (v := v) (m := m) (s := s) hi hii G2
      have p0 := pa s hs si hsi
      rw [← hii]
      have fine2 : (gNm 4 (.int ii) (E (some (.int si)) b) G2).andThen (E (some (.int si)) b) (fun env1 G1 => g__law_holds_1 env1 G1) = g__law_holds_1 (E (some (.int si)) (some (.int ii))) G2 := by rw [gNm_, r_then_ok]; rfl
      rw [fine2]
      let E' : Ev := E (some (.int si)) (some (.int ii))
      have q1 : sIf (tOrB (bVal (eBin gLt (eBin gIdx (eBin gIdx (eVar 2) (eVar 3)) (eVar 4)) (eC (.int 0)))) (tAndB (bVal (eBin gGt (eVar 4) (eC (.int 0)))) (bVal (eBin gLt (eBin gIdx (eBin gIdx (eVar 2) (eVar 3)) (eVar 4)) (eBin gAdd (eBin gIdx (eBin gIdx (eVar 2) (eVar 3)) (eBin gSub (eVar 4) (eC (.int 1)))) (eBin gIdx (eVar 0) (eVar 3))))))) (sRet (eC (.bl false))) sNil E' G2 = if v i s < 0 ∨ (0 < i ∧ v i s < v (i - 1) s + tOf ps s) then .ret (.bl false) G2 else .nx E' G2 := by
        by_cases c0 : v i s < 0
        · rw [if_pos (Or.inl c0)]
          simp [E', E, r0, a0, c0]
        · by_cases c1 : 0 < ii
          · have a1 := row_at (v := v) (m := m) (s := s) (i := i - 1) (j := ii - 1) (by omega) (by omega) G2
            generalize v (i - 1) s = z at a1 ⊢
            by_cases c2 : v i s < z + tOf ps s
            · rw [if_pos (Or.inr ⟨by omega, c2⟩)]
              simp [E', E, c0, c1, r0, a0, a1, p0, c2]
            · rw [if_neg fun z => z.elim c0 fun z => c2 z.2]
              simp [E', E, c0, c1, r0, a0, a1, p0, c2]
          · rw [if_neg fun z => z.elim c0 fun z => c1 (by omega)]
            simp [E', E, c0, c1, r0, a0]
      have q2 : sIf (tAndB (bVal (eBin gGt (eVar 3) (eC (.int 0)))) (bVal (eBin gLt (eBin gIdx (eBin gIdx (eVar 2) (eVar 3)) (eVar 4)) (eBin gAdd (eBin gIdx (eBin gIdx (eVar 2) (eBin gSub (eVar 3) (eC (.int 1)))) (eVar 4)) (eBin gIdx (eVar 0) (eBin gSub (eVar 3) (eC (.int 1)))))))) (sRet (eC (.bl false))) sNil E' G2 = if 0 < s ∧ v i s < v i (s - 1) + tOf ps (s - 1) then .ret (.bl false) G2 else .nx E' G2 := by
        by_cases c1 : 0 < si
        · have r1 := tb_row (v := v) (m := m) (n := n) (s := s - 1) (j := si - 1) (by omega) (by omega) G2
          rw [← htv] at r1
          have a1 := row_at (v := v) (m := m) (s := s - 1) (i := i) (j := ii) hi hii G2
          have p1 := pa (s - 1) (by omega) (si - 1) (by omega)
          generalize v i (s - 1) = z at a1 ⊢
          by_cases c2 : v i s < z + tOf ps (s - 1)
          · rw [if_pos ⟨by omega, c2⟩]
            simp [E', E, c1, r0, a0, r1, a1, p1, c2]
          · rw [if_neg fun z => c2 z.2]
            simp [E', E, c1, r0, a0, r1, a1, p1, c2]
        · rw [if_neg fun z => c1 (by omega)]
          simp [E', E, c1]
      unfold g__law_holds_1
      rw [sSeq_, q1]
      by_cases c0 : v i s < 0 ∨ (0 < i ∧ v i s < v (i - 1) s + tOf ps s)
      · rw [if_pos c0]
        refine Or.inr ⟨fun z => ?_, G2, rfl, rfl⟩
        have z1 := z.1
        rcases c0 with c0 | c0
        · omega
        · have := z.2.1 c0.1; omega
      · rw [if_neg c0]
        simp only [q2]
        by_cases c2 : 0 < s ∧ v i s < v i (s - 1) + tOf ps (s - 1)
        · rw [if_pos c2]
          exact Or.inr ⟨fun z => by have := z.2.2 c2.1; omega, G2, rfl, rfl⟩
        · rw [if_neg c2]
          exact Or.inl ⟨⟨by omega, fun z => by omega, fun z => by omega⟩, _, G2, rfl, rfl, _, rfl⟩)
    unfold g__law_holds_2
    rcases L2 with ⟨h1, e', G2, h2, hG, b', he⟩ | ⟨h1, G2, h2, hG⟩
    · exact Or.inl ⟨h1, e', G2, h2, hG, _, _, he⟩
    · exact Or.inr ⟨h1, G2, h2, hG⟩)
  have key : (∀ s, s < n → ∀ i, i < m → 0 ≤ v i s ∧ cnd (tOf ps) v s i) ↔ Hold (tOf ps) n m v := ⟨fun h => ⟨fun s hs i hi => (h s hs i hi).1, fun s hs i hi => (h s hs i hi).2⟩, fun h s hs i hi => ⟨h.1 s hs i hi, h.2 s hs i hi⟩⟩
  have s0 : sIf (bVal (eBin gNe (eCall bLen (aCons (eVar 2) aNil)) (eCall bLen (aCons (eVar 0) aNil)))) (sRet (eC (.bl false))) sNil (E none none) G = .nx (E none none) G := by
    simp [E, bl, blv]
  rcases L with ⟨h1, e', G2, h2, hG, a, b, he⟩ | ⟨h1, G2, h2, hG⟩
  · subst hG
    refine ⟨true, ?_, ⟨fun _ => key.mp h1, fun _ => rfl⟩⟩
    unfold g__law_holds
    rw [show ([some (.ref lp), some (.int mi), some tv, none, none] : Ev) = E none none from rfl, seq_nx s0, seq_nx h2]
    rfl
  · subst hG
    refine ⟨false, ?_, ⟨fun z => (nomatch z), fun z => absurd (key.mpr z) h1⟩⟩
    unfold g__law_holds
    rw [show ([some (.ref lp), some (.int mi), some tv, none, none] : Ev) = E none none from rfl, seq_nx s0, sSeq_, h2]
    rfl
/-! ### one entry a tick earlier -/
theorem tup_rows {own : List Nat} {j : Nat} {fo : Ev → Gp → R U} {env : Ev} {G : Gp} {l n : Nat} {f : Nat → List U} (hn : n < 1000) (hj : ∀ u, (((wipeE env own).set j (some u))[j]? : Option (Option U)) = some (some u)) (ho : fo env G = .ok (.ref l) G)
    (top : G[l]? = some (.lst ((List.range n).map fun s => U.ref (l + 1 + s)))) (rows : ∀ s, s < n → G[l + 1 + s]? = some (.lst (f s))) :
    ∃ G', (eCall bTuple (aCons (eComp own (iOf fo kSeq) (gNm j) tYesB (eCall bTuple (aCons (eVar j) aNil))) aNil)) env G = .ok (.tup ((List.range n).map fun s => .tup (f s))) G' ∧ Ex0 G G' := by
  obtain ⟨src, e1, hs⟩ := srcx_ref top
  obtain ⟨G', e2, x2, at2⟩ := comp_pure (own := own) (gf := gNm j) (ft := tYesB) (fe := eCall bTuple (aCons (eVar j) aNil)) (env := env) (G := G) (G1 := G) (g := fun s => U.ref (l + 1 + s)) (fun _ => true) (fun s => U.tup (f s)) (iOf_ok ho e1) hs (by simp; omega) (fun i hi G2 x => by
    have hi' : i < n := by simpa using hi
    rw [List.getElem_range]
    refine ⟨_, rfl, rfl, fun _ => ?_⟩
    have := hj (.ref (l + 1 + i))
    have b := bTuple_seq (seqU_of (x.at_ (rows i hi')))
    simp [this, b])
  refine ⟨G', ?_, x2⟩
  have e3 : (List.range n).filter (fun _ => true) = List.range n := List.filter_eq_self.mpr fun _ _ => rfl
  rw [e3] at at2
  have b := bTuple_seq (seqU_of at2)
  simp [e2, b]
def low (v : Nat → Nat → Int) (s i : Nat) : Nat → Nat → Int := fun j q => if q = s ∧ j = i then v j q - 1 else v j q
theorem earlier_spec {v : Nat → Nat → Int} {n m : Nat} {G : Gp} (n1 : 1 ≤ n) (m1 : 1 ≤ m) (hn : n < 1000) (hm : m < 1000) (hD : Dr G) :
    ∃ v' G', F__law_earlier [.ref 0, tbU v n m] G = .ok (tbU v' n m) G' ∧ Ext G G' ∧ Dr G' := by
  rw [run__law_earlier]
  obtain ⟨tv, htv⟩ : ∃ tv, tv = tbU v n m := ⟨_, rfl⟩
  have h0 := hD.len
  obtain ⟨G1, e1, x1, top, rows⟩ := comp_fresh (own := [3]) (G := G) (G1 := G) (fi := iOf (eVar 1) kSeq) (gf := gNm 3) (fe := eCall bList (aCons (eVar 3) aNil)) (env := [some (.ref 0), some tv, none, none, none]) (ys := List.range n) (g := fun s => U.tup (rowU v m s)) (fun s => rowU v m s) (iOf_ok (u := tv) (by simp) (by rw [htv]; rfl)) (srcx_tup (G := G)).2 (by simp; omega) (fun q hq G2 x => by
    rw [List.getElem_range]
    have bq := bList_seq (u := .tup (rowU v m q)) (G := G2) (xs := rowU v m q) rfl
    exact ⟨_, rfl, by simp [wipeE, bq]⟩)
  have hlr : (List.range n).length = n := List.length_range
  rw [hlr] at top
  have rows : ∀ q, q < n → G1[G.length + 1 + q]? = some (.lst (rowU v m q)) := fun q hq => by
    have := rows q (by rw [hlr]; exact hq)
    rw [List.getElem_range] at this
    exact this
  obtain ⟨ni, hni⟩ : ∃ ni : Int, ni = (n : Int) := ⟨_, rfl⟩
  obtain ⟨mi, hmi⟩ : ∃ mi : Int, mi = (m : Int) := ⟨_, rfl⟩
  have bl1 : bLen [.ref G.length] G1 = .ok (.int ni) G1 := by
    rw [bLen_seq (seqU_of top), hni]
    simp
  obtain ⟨si, G2, e2, a2, b2, o2, d2⟩ := next_spec (b := ni) (x1.dr hD) (by omega)
  obtain ⟨s, hsi⟩ : ∃ s : Nat, si = (s : Int) := ⟨si.toNat, by omega⟩
  have hs : s < n := by omega
  have top2 := o2.ext.at_ h0 top
  have rows2 : ∀ q, q < n → G2[G.length + 1 + q]? = some (.lst (rowU v m q)) := fun q hq => o2.ext.at_ (by omega) (rows q hq)
  have ix : gIdx (.ref G.length) (.int si) G2 = .ok (.ref (G.length + 1 + s)) G2 := gIdx_ref top2 (atI_pos (by omega) (by rw [show si.toNat = s by omega, List.getElem?_map, List.getElem?_range hs]; rfl))
  obtain ⟨lr, hlr2⟩ : ∃ lr, lr = G.length + 1 + s := ⟨_, rfl⟩
  rw [← hlr2] at ix
  have rs2 : G2[lr]? = some (.lst (rowU v m s)) := by rw [hlr2]; exact rows2 s hs
  have bl2 : bLen [.ref lr] G2 = .ok (.int mi) G2 := by rw [bLen_seq (seqU_of rs2), rowU_len, hmi]
  obtain ⟨ii, G3, e3, a3, b3, o3, d3⟩ := next_spec (b := mi) d2 (by omega)
  obtain ⟨i, hii⟩ : ∃ i : Nat, ii = (i : Int) := ⟨ii.toNat, by omega⟩
  have hi : i < m := by omega
  have top3 := o3.ext.at_ h0 top2
  have rows3 : ∀ q, q < n → G3[G.length + 1 + q]? = some (.lst (rowU v m q)) := fun q hq => o3.ext.at_ (by omega) (rows2 q hq)
  have rs : G3[lr]? = some (.lst (rowU v m s)) := by rw [hlr2]; exact rows3 s hs
  have a0 : gIdx (.ref lr) (.int ii) G3 = .ok (.int (v i s)) G3 := gIdx_ref rs (atI_pos (by omega) (by rw [show ii.toNat = i by omega]; exact rowU_get hi))
  have su := setU_ref (G := G3) (v := .int (v i s - 1)) (i := ii) rs (by omega) (by rw [rowU_len]; omega)
  obtain ⟨G4, hG4⟩ : ∃ G4, G4 = G3.set lr (.lst ((rowU v m s).set ii.toNat (.int (v i s - 1)))) := ⟨_, rfl⟩
  rw [← hG4] at su
  have x3 : Ext G G3 := (x1.ext.trans o2.ext).trans o3.ext
  have x4 : Ext G G4 := by rw [hG4]; exact ext_set x3 (by omega) _
  have d4 : Dr G4 := by rw [hG4]; exact dr_set d3 (by omega) _
  have top4 : G4[G.length]? = some (.lst ((List.range n).map fun s => U.ref (G.length + 1 + s))) := by rw [hG4, List.getElem?_set_ne (by omega)]; exact top3
  have rows4 : ∀ q, q < n → G4[G.length + 1 + q]? = some (.lst (rowU (low v s i) m q)) := fun q hq => by
    rw [hG4]
    by_cases c : q = s
    · subst c
      rw [hlr2, set_get (rows3 q hq)]
      congr 2
      apply List.ext_getElem?
      intro j
      rw [show ii.toNat = i by omega]
      by_cases cj : j < m
      · rw [rowU_get cj]
        by_cases cji : j = i
        · subst cji
          rw [List.getElem?_set_self (by rw [rowU_len]; exact cj)]
          simp [low]
        · rw [List.getElem?_set_ne (by omega), rowU_get cj]
          simp [low, cji]
      · rw [List.getElem?_eq_none (by simp [rowU_len]; omega), List.getElem?_eq_none (by simp [rowU_len]; omega)]
    · rw [List.getElem?_set_ne (by omega), rows3 q hq]
      congr 2
      unfold rowU low
      simp [c]
  obtain ⟨G5, e5, x5⟩ := tup_rows (own := [3]) (j := 3) (fo := eVar 2) (env := [some (.ref 0), some tv, some (.ref G.length), some (.ref lr), some (.int ii)]) (f := fun q => rowU (low v s i) m q) hn (fun u => rfl) (by simp) top4 rows4
  refine ⟨low v s i, G5, ?_, x4.trans x5.ext, x5.dr d4⟩
  rw [← htv]
  unfold g__law_earlier
  rw [seq_nx (e' := [some (.ref 0), some tv, some (.ref G.length), none, none]) (G' := G1) (by rw [sAsg_, e1]; rfl), seq_nx (e' := [some (.ref 0), some tv, some (.ref G.length), some (.ref lr), none]) (G' := G2) (by simp [bl1, e2, ix]), seq_nx (e' := [some (.ref 0), some tv, some (.ref G.length), some (.ref lr), some (.int ii)]) (G' := G3) (by simp [bl2, e3]), seq_nx (e' := [some (.ref 0), some tv, some (.ref G.length), some (.ref lr), some (.int ii)]) (G' := G4) (by simp [a0, su]), sRet_, e5]
  rfl
end K09

set_option Elab.async false
set_option linter.all false
set_option maxRecDepth 100000
set_option maxHeartbeats 4000000
set_option autoImplicit false
namespace K09
open PySem PySem.Spec L2 FL

/-! ### what is told of a call -/
def EnvP (w : Int) (u v x : U) : Ev := [some (.int w), some u, some v, some x, none]
theorem piped_ok {w : Int} {u v x r : U} {G G' : Gp} (h : g__law_piped_6 (EnvP w u v x) G = .ret (.tup [.str "told", r]) G') : F__law_piped [.int w, u, v, x] G = .ok (.tup [.str "told", r]) G' := by
  rw [run__law_piped]
  unfold g__law_piped sTry
  rw [show ([some (.int w), some u, some v, some x, none] : Ev) = EnvP w u v x from rfl, h]
  rfl
theorem piped_row {w k : Int} {u v x : U} {G G' : Gp} (h : g__law_piped_6 (EnvP w u v x) G = .exc "InvalidRow" [("place", .int k)] (EnvP w u v x) G') : F__law_piped [.int w, u, v, x] G = .ok (.tup [.str "row", .int k]) G' := by
  rw [run__law_piped]
  unfold g__law_piped sTry
  rw [show ([some (.int w), some u, some v, some x, none] : Ev) = EnvP w u v x from rfl, h]
  rfl
/-- the calls -/
inductive Mo (n m : Nat) : Int → U → Prop where
  | pipe (x : U) : Mo n m 0 x
  | pipe' (x : U) : Mo n m 5 x
  | beg (x : U) : Mo n m 1 x
  | hold (v : Nat → Nat → Int) : Mo n m 2 (tbU v n m)
  | tick (r : Nat) (ri : Int) (h1 : 1 ≤ r) (h2 : r ≤ 20) (hr : ri = (r : Int)) : Mo n m 3 (.int ri)
  | late (r : Nat) (ri : Int) (h1 : 1 ≤ r) (h2 : r ≤ 20) (hr : ri = (r : Int)) : Mo n m 4 (.int ri)
theorem piped_bad {qs : List Int} {w mi k : Int} {m : Nat} {u x : U} {G : Gp} (h : F_checked_row [u, .int 6, .int 1, .int 20] G = .exc "InvalidRow" [("place", .int k)] G) (hm : Mo qs.length m w x) : F__law_piped [.int w, u, .int mi, x] G = .ok (.tup [.str "row", .int k]) G := by
  have c := ct_row (v := .int mi) h
  refine piped_row ?_
  cases hm with
  | pipe =>
    have e : F_pipe_ticks [u, .int mi] G = .exc "InvalidRow" [("place", .int k)] G := by rw [run_pipe_ticks]; simp [g_pipe_ticks, c]
    simp [EnvP, g__law_piped_6, g__law_piped_1, e]
  | pipe' =>
    have e : F_pipe_ticks [u, .int mi] G = .exc "InvalidRow" [("place", .int k)] G := by rw [run_pipe_ticks]; simp [g_pipe_ticks, c]
    have gk : gK 0 2 [1, 0] ([] : List U) [.int mi, u] = [u, .int mi] := rfl
    simp [EnvP, g__law_piped_6, gk, e]
  | beg =>
    have e : F_begins [u, .int mi] G = .exc "InvalidRow" [("place", .int k)] G := by rw [run_begins]; simp [g_begins, c]
    simp [EnvP, g__law_piped_6, g__law_piped_2, e]
  | hold v =>
    generalize tbU v qs.length m = x
    have e : F_begins_hold [u, .int mi, x] G = .exc "InvalidRow" [("place", .int k)] G := by rw [run_begins_hold]; simp [g_begins_hold, c]
    simp [EnvP, g__law_piped_6, g__law_piped_3, e]
  | tick r ri h1 h2 hr =>
    have e : F_late_ticks [u, .int mi, .int ri] G = .exc "InvalidRow" [("place", .int k)] G := by rw [run_late_ticks]; simp [g_late_ticks, c]
    simp [EnvP, g__law_piped_6, g__law_piped_4, e]
  | late r ri h1 h2 hr =>
    have e : F_least_late [u, .int mi, .int ri] G = .exc "InvalidRow" [("place", .int k)] G := by rw [run_least_late]; simp [g_least_late, c]
    simp [EnvP, g__law_piped_6, g__law_piped_5, e]
/-! ### what is due -/
def EnvW2 (w : Int) (ls : Nat) (mi : Int) (x : U) (a : Option U) : Ev := [some (.int w), some (.ref ls), some (.int mi), some x, a, none]
def abv (qs : List Int) : List Nat := (List.range qs.length).filter fun k => decide (20 < tOf qs k)
theorem due_abv {qs : List Int} {w mi : Int} {ls : Nat} {x : U} {G : Gp} (ok : OkS qs) (hs : G[ls]? = some (.lst (qs.map .int))) :
    ∃ G1, sAsg (eComp [5] (iOfs (aCons (eCall bLen (aCons (eVar 1) aNil)) aNil) kRng1) (gNm 5) (bVal (eBin gGt (eBin gIdx (eVar 1) (eVar 5)) (eC (.int 20)))) (eVar 5)) (gNm 4) (EnvW2 w ls mi x none) G = .nx (EnvW2 w ls mi x (some (.ref G.length))) G1 ∧ Ex0 G G1 ∧ G1[G.length]? = some (.lst ((abv qs).map fun i => U.int (i : Nat))) := by
  have hl := ok.2.1
  have bl := blen_ref hs
  obtain ⟨n, hn⟩ : ∃ n, n = qs.length := ⟨_, rfl⟩
  rw [← hn] at bl hl
  obtain ⟨src, c1, hsx⟩ := srcx_rng (n := n) (G := G) (by omega)
  obtain ⟨ni, hni⟩ : ∃ ni : Int, ni = (n : Int) := ⟨_, rfl⟩
  rw [← hni] at bl c1
  obtain ⟨G1, e1, x1, at1⟩ := comp_pure (own := [5]) (fi := iOfs (aCons (eCall bLen (aCons (eVar 1) aNil)) aNil) kRng1) (G := G) (G1 := G) (gf := gNm 5) (ft := bVal (eBin gGt (eBin gIdx (eVar 1) (eVar 5)) (eC (.int 20)))) (fe := eVar 5) (env := EnvW2 w ls mi x none) (ys := List.range n) (g := fun i => U.int (i : Nat)) (fun k => decide (20 < tOf qs k)) (fun i => U.int (i : Nat)) (iOfs_ok (us := [.int ni]) (by simp [EnvW2, bl]) c1) hsx (by simp; omega) (fun i hi G2 x2 => by
    have hi' : i < n := by simpa using hi
    rw [List.getElem_range]
    have ix := psr_at (x2.at_ hs) (s := i) (by omega) rfl
    generalize ((i : Nat) : Int) = ii at ix ⊢
    refine ⟨_, rfl, ?_, fun _ => ?_⟩
    · generalize tOf qs i = z at ix ⊢
      simp [EnvW2, wipeE, ix]
    · simp [EnvW2, wipeE])
  refine ⟨G1, ?_, x1, ?_⟩
  · rw [sAsg_, e1]
    rfl
  · rw [at1, hn]; rfl
theorem due_bad {qs : List Int} {w mi : Int} {ls k : Nat} {r : List Nat} {x : U} {G : Gp} (ok : OkS qs) (hs : G[ls]? = some (.lst (qs.map .int))) (h : abv qs = k :: r) : ∃ G1, F__law_due [.int w, .ref ls, .int mi, x] G = .ok (.tup [.str "row", .int (k : Nat)]) G1 ∧ Ex0 G G1 := by
  rw [run__law_due]
  obtain ⟨G1, e1, x1, at1⟩ := due_abv (w := w) (mi := mi) (x := x) ok hs
  rw [h] at at1
  refine ⟨G1, ?_, x1⟩
  have bl : bLen [.ref G.length] G1 = .ok (.int ((r.length : Int) + 1)) G1 := by
    rw [bLen_seq (seqU_of at1)]; simp
  have ix : gIdx (.ref G.length) (.int 0) G1 = .ok (.int (k : Nat)) G1 := gIdx_ref at1 (atI_pos (by omega) rfl)
  have hp : (0 : Int) < (r.length : Int) + 1 := by omega
  generalize (r.length : Int) + 1 = z at bl hp
  unfold g__law_due
  rw [show ([some (.int w), some (.ref ls), some (.int mi), some x, none, none] : Ev) = EnvW2 w ls mi x none from rfl, seq_nx e1]
  generalize ((k : Nat) : Int) = ki at ix ⊢
  simp [EnvW2, bl, hp, g__law_due_1, ix]
theorem due_ok {qs : List Int} {w mi : Int} {ls : Nat} {x y : U} {G : Gp} (ok : OkS qs) (hs : G[ls]? = some (.lst (qs.map .int))) (h : abv qs = [])
    (hy : ∀ G1, Ex0 G G1 → ∃ G2, (sSeq (sIf (bVal (eBin gEq (eVar 0) (eC (.int 1)))) g__law_due_2 sNil) (sSeq (sIf (bVal (eBin gEq (eVar 0) (eC (.int 2)))) g__law_due_3 sNil) (sSeq (sIf (bVal (eBin gEq (eVar 0) (eC (.int 3)))) g__law_due_4 sNil) (sSeq (sIf (bVal (eBin gEq (eVar 0) (eC (.int 4)))) g__law_due_5 sNil) (sRet (eTup (aCons (eC (.str ("told" : Str))) (aCons (eBin gAdd (eBin gIdx (eBin gIdx (eCall F__law_begins (aCons (eVar 1) (aCons (eVar 2) aNil))) (eUn gNeg (eC (.int 1)))) (eUn gNeg (eC (.int 1)))) (eBin gIdx (eVar 1) (eUn gNeg (eC (.int 1))))) aNil)))))))) (EnvW2 w ls mi x (some (.ref G.length))) G1 = .ret (.tup [.str "told", y]) G2 ∧ Ex0 G1 G2) :
    ∃ G1, F__law_due [.int w, .ref ls, .int mi, x] G = .ok (.tup [.str "told", y]) G1 ∧ Ex0 G G1 := by
  rw [run__law_due]
  obtain ⟨G1, e1, x1, at1⟩ := due_abv (w := w) (mi := mi) (x := x) ok hs
  rw [h] at at1
  have at1 : G1[G.length]? = some (.lst []) := at1
  have bl : bLen [.ref G.length] G1 = .ok (.int 0) G1 := by
    rw [bLen_seq (seqU_of at1)]; rfl
  obtain ⟨G2, e2, x2⟩ := hy G1 x1
  refine ⟨G2, ?_, x1.trans x2⟩
  have s2 : sIf (bVal (eBin gGt (eCall bLen (aCons (eVar 4) aNil)) (eC (.int 0)))) g__law_due_1 sNil (EnvW2 w ls mi x (some (.ref G.length))) G1 = .nx (EnvW2 w ls mi x (some (.ref G.length))) G1 := by
    simp [EnvW2, bl]
  unfold g__law_due
  rw [show ([some (.int w), some (.ref ls), some (.int mi), some x, none, none] : Ev) = EnvW2 w ls mi x none from rfl, seq_nx e1, seq_nx s2, e2]
  rfl
/-- both sides, where all sums are let -/
theorem both {qs : List Int} {w mi : Int} {m ls : Nat} {x : U} (ok : OkS qs) (okt : OkT qs) (m1 : 1 ≤ m) (m2 : m ≤ 20) (hmi : mi = (m : Int)) (h : abv qs = []) (hm : Mo qs.length m w x) : ∃ y, PDn 38 y ∧
    (∀ G, G[ls]? = some (.lst (qs.map .int)) → ∃ G1, F__law_due [.int w, .ref ls, .int mi, x] G = .ok (.tup [.str "told", y]) G1 ∧ Ex0 G G1) ∧
    (∀ u G, isSeq u (qs.map .int) G → ∃ G1, F__law_piped [.int w, u, .int mi, x] G = .ok (.tup [.str "told", y]) G1 ∧ Ex0 G G1) := by
  have n6 := ok.2.1
  have n1 := ok.1
  have qm : Qs qs mi mi m m := ⟨okt, m1, m2, hmi, m1, m2, hmi⟩
  have pd : ∀ r, PDn 38 (tB qs r m) := fun r => pdn_tab (by omega) (by omega)
  have begd : ∀ {x : U} G, G[ls]? = some (.lst (qs.map .int)) → ∃ G1, F__law_begins [.ref ls, .int mi] G = .ok (tB qs m m) G1 ∧ Ex0 G G1 := fun {x} G hs => begins_spec ok hs m1 m2 hmi
  have tickd : ∀ {w : Int} (_ : w = 0 ∨ w = 5) {x : U} G, G[ls]? = some (.lst (qs.map .int)) → ∃ G1, F__law_due [.int w, .ref ls, .int mi, x] G = .ok (.tup [.str "told", .int (eN qs m m)]) G1 ∧ Ex0 G G1 := fun {w} hw {x} G hs => by
    refine due_ok ok hs h fun G1 x1 => ?_
    obtain ⟨G2, e2, x2⟩ := begd (x := x) G1 (x1.at_ hs)
    have e2 : F__law_begins [.ref ls, .int mi] G1 = .ok (tbU (B (tOf qs) qs.length m) qs.length m) G2 := by rw [← tabU_eq]; exact e2
    have i1 : gIdx (tbU (B (tOf qs) qs.length m) qs.length m) (.int (-1)) G2 = .ok (.tup (rowU (B (tOf qs) qs.length m) m (qs.length - 1))) G2 := gIdx_tup (atI_last (by
      rw [List.getLast?_eq_getElem?, List.length_map, List.length_range, List.getElem?_map, List.getElem?_range (by omega)]; rfl))
    have i2 : gIdx (.tup (rowU (B (tOf qs) qs.length m) m (qs.length - 1))) (.int (-1)) G2 = .ok (.int (B (tOf qs) qs.length m (m - 1) (qs.length - 1))) G2 := gIdx_tup (atI_last (by
      rw [List.getLast?_eq_getElem?, rowU_len]; exact rowU_get (by omega)))
    have i3 : gIdx (.ref ls) (.int (-1)) G2 = .ok (.int (tOf qs (qs.length - 1))) G2 := gIdx_ref ((x1.trans x2).at_ hs) (atI_last (by
      rw [List.getLast?_eq_getElem?, List.length_map]; exact tOf_get (by omega)))
    have he : eN qs m m = B (tOf qs) qs.length m (m - 1) (qs.length - 1) + tOf qs (qs.length - 1) := rfl
    refine ⟨G2, ?_, x2⟩
    rw [he]
    generalize B (tOf qs) qs.length m (m - 1) (qs.length - 1) = z1 at i2 ⊢
    generalize rowU (B (tOf qs) qs.length m) m (qs.length - 1) = z2 at i1 i2
    generalize tbU (B (tOf qs) qs.length m) qs.length m = z3 at e2 i1
    generalize tOf qs (qs.length - 1) = z4 at i3 ⊢
    rcases hw with rfl | rfl <;> simp [EnvW2, e2, i1, i2, i3]
  have tickp : ∀ u G, isSeq u (qs.map .int) G → F_pipe_ticks [u, .int mi] G = .ok (.int (eN qs m m)) G := fun u G hu => by
    rw [pipe_ok qm hu, ← eN_sum qm (Or.inr (Nat.le_refl _))]
  cases hm with
  | pipe x =>
    refine ⟨.int (eN qs m m), trivial, fun G hs => tickd (Or.inl rfl) G hs, fun u G hu => ⟨G, piped_ok ?_, Ex0.refl _⟩⟩
    have e := tickp u G hu
    generalize eN qs m m = z at e ⊢
    simp [EnvP, g__law_piped_6, g__law_piped_1, e]
  | pipe' x =>
    refine ⟨.int (eN qs m m), trivial, fun G hs => tickd (Or.inr rfl) G hs, fun u G hu => ⟨G, piped_ok ?_, Ex0.refl _⟩⟩
    have e := tickp u G hu
    have gk : gK 0 2 [1, 0] ([] : List U) [.int mi, u] = [u, .int mi] := rfl
    generalize eN qs m m = z at e ⊢
    simp [EnvP, g__law_piped_6, gk, e]
  | beg x =>
    refine ⟨tB qs m m, pd m, fun G hs => due_ok ok hs h fun G1 x1 => ?_, fun u G hu => ?_⟩
    · obtain ⟨G2, e2, x2⟩ := begd (x := x) G1 (x1.at_ hs)
      refine ⟨G2, ?_, x2⟩
      generalize tB qs m m = z at e2 ⊢
      simp [EnvW2, g__law_due_2, e2]
    · obtain ⟨G2, e, x2⟩ := begins_ok qm hu
      refine ⟨G2, piped_ok ?_, x2⟩
      generalize tB qs m m = z at e ⊢
      simp [EnvP, g__law_piped_6, g__law_piped_2, e]
  | hold v =>
    obtain ⟨b, hb⟩ : ∃ b : Bool, b = true ↔ Hold (tOf qs) qs.length m v := by
      by_cases c : Hold (tOf qs) qs.length m v
      · exact ⟨true, fun _ => c, fun _ => rfl⟩
      · exact ⟨false, fun z => (nomatch z), fun z => absurd z c⟩
    have same : ∀ b' : Bool, (b' = true ↔ Hold (tOf qs) qs.length m v) → b' = b := fun b' h' => by
      have := h'.trans hb.symm
      cases b <;> cases b' <;> simp at this ⊢
    refine ⟨.bl b, trivial, fun G hs => due_ok ok hs h fun G1 x1 => ?_, fun u G hu => ?_⟩
    · obtain ⟨b', e2, h2⟩ := lholds_spec (v := v) ok (x1.at_ hs) m2 hmi
      rw [same b' h2] at e2
      refine ⟨G1, ?_, Ex0.refl _⟩
      generalize tbU v qs.length m = z at e2 ⊢
      simp [EnvW2, g__law_due_3, e2]
    · obtain ⟨b', G2, e, x2, h2⟩ := hold_spec (v := v) hu okt m1 m2 hmi
      rw [same b' h2] at e
      refine ⟨G2, piped_ok ?_, x2⟩
      generalize tbU v qs.length m = z at e ⊢
      simp [EnvP, g__law_piped_6, g__law_piped_3, e]
  | tick r ri h1 h2 hr =>
    have q : Qs qs mi ri m r := ⟨okt, m1, m2, hmi, h1, h2, hr⟩
    refine ⟨.int (eN qs r m), trivial, fun G hs => due_ok ok hs h fun G1 x1 => ?_, fun u G hu => ?_⟩
    · obtain ⟨G2, e2, x2⟩ := late_spec ok (x1.at_ hs) m1 m2 hmi h1 hr
      refine ⟨G2, ?_, x2⟩
      have ix : ∀ (a b : U), gIdx (.tup [a, b]) (.int 1) G2 = .ok b G2 := fun a b => gIdx_tup rfl
      generalize tB qs r m = z at e2
      generalize eN qs r m = z1 at e2 ⊢
      simp [EnvW2, g__law_due_4, e2, ix]
    · obtain ⟨G2, e, x2⟩ := ticks_ok q hu
      refine ⟨G2, piped_ok ?_, x2⟩
      generalize eN qs r m = z at e ⊢
      simp [EnvP, g__law_piped_6, g__law_piped_4, e]
  | late r ri h1 h2 hr =>
    have q : Qs qs mi ri m r := ⟨okt, m1, m2, hmi, h1, h2, hr⟩
    refine ⟨tB qs r m, pd r, fun G hs => due_ok ok hs h fun G1 x1 => ?_, fun u G hu => ?_⟩
    · obtain ⟨G2, e2, x2⟩ := late_spec ok (x1.at_ hs) m1 m2 hmi h1 hr
      refine ⟨G2, ?_, x2⟩
      have ix : ∀ (a b : U), gIdx (.tup [a, b]) (.int 0) G2 = .ok a G2 := fun a b => gIdx_tup rfl
      generalize tB qs r m = z at e2 ⊢
      generalize eN qs r m = z1 at e2
      simp [EnvW2, g__law_due_5, e2, ix]
    · obtain ⟨G2, e, x2⟩ := late_ok q hu
      refine ⟨G2, piped_ok ?_, x2⟩
      generalize tB qs r m = z at e ⊢
      simp [EnvP, g__law_piped_6, g__law_piped_5, e]
/-- both sides, where a sum is above 20 -/
theorem both_bad {qs : List Int} {w mi : Int} {m ls k : Nat} {r : List Nat} {x : U} (ok : OkS qs) (h : abv qs = k :: r) (hm : Mo qs.length m w x) : ∃ y, PDn 38 y ∧
    (∀ G, G[ls]? = some (.lst (qs.map .int)) → ∃ G1, F__law_due [.int w, .ref ls, .int mi, x] G = .ok (.tup [.str "row", y]) G1 ∧ Ex0 G G1) ∧
    (∀ u G, isSeq u (qs.map .int) G → ∃ G1, F__law_piped [.int w, u, .int mi, x] G = .ok (.tup [.str "row", y]) G1 ∧ Ex0 G G1) := by
  refine ⟨.int (k : Nat), trivial, fun G hs => due_bad ok hs h, fun u G hu => ⟨G, piped_bad ?_ hm, Ex0.refl _⟩⟩
  have hk : k ∈ abv qs := by rw [h]; exact List.mem_cons_self
  have hk := List.mem_filter.mp hk
  have hkn : k < qs.length := List.mem_range.mp hk.1
  have hk2 : 20 < tOf qs k := of_decide_eq_true hk.2
  have hlt : ∀ j, j < k → tOf qs j ≤ 20 := fun j hj => by
    apply Int.le_of_not_gt
    intro c
    have hp : List.Pairwise (· < ·) (abv qs) := List.Pairwise.filter _ List.pairwise_lt_range
    rw [h] at hp
    have hj2 : j ∈ abv qs := List.mem_filter.mpr ⟨List.mem_range.mpr (by omega), decide_eq_true c⟩
    rw [h] at hj2
    rcases List.mem_cons.mp hj2 with e | e
    · omega
    · have := (List.pairwise_cons.mp hp).1 j e
      omega
  have hget : ∀ (j : Nat) (hj : j < (qs.map U.int).length), (qs.map U.int)[j] = .int (tOf qs j) := fun j hj => by
    rw [List.getElem_map, tOf_lt (by simpa using hj)]
  refine checked_row_place hu (by simpa using ok.1) (by have := ok.2.1; simp; omega) (k := k) (by simpa using hkn) ?_ ?_ fun j hj hjk => ?_
  · rw [hget]; exact noRef_int _
  · rw [hget]
    generalize tOf qs k = z at hk2
    simp [inR]; omega
  · rw [hget]
    refine ⟨noRef_int _, ?_⟩
    have h1 := ok.pos j (by omega)
    have h2 := hlt j hjk
    generalize tOf qs j = z at h1 h2
    simp [inR]; omega
/-! ### asked -/
theorem asked_spec {qs : List Int} {w mi : Int} {m ls : Nat} {x : U} {G : Gp} (ok : OkS qs) (m1 : 1 ≤ m) (m2 : m ≤ 20) (hmi : mi = (m : Int)) (hm : Mo qs.length m w x) (hs : G[ls]? = some (.lst (qs.map .int))) : ∃ G', F__law_asked [.int w, .ref ls, .int mi, x] G = .ok (.bl true) G' ∧ Ex0 G G' := by
  have B : ∃ (z : Str) (y : U), PDn 38 y ∧ (∀ G, G[ls]? = some (.lst (qs.map .int)) → ∃ G1, F__law_due [.int w, .ref ls, .int mi, x] G = .ok (.tup [.str z, y]) G1 ∧ Ex0 G G1) ∧
      (∀ u G, isSeq u (qs.map .int) G → ∃ G1, F__law_piped [.int w, u, .int mi, x] G = .ok (.tup [.str z, y]) G1 ∧ Ex0 G G1) := by
    cases ha : abv qs with
    | nil =>
      have okt : OkT qs := ⟨ok.1, ok.2.1, fun p hp => ⟨ok.2.2 p hp, by
        obtain ⟨j, hj, e⟩ := List.getElem_of_mem hp
        apply Int.le_of_not_gt
        intro c
        have : j ∈ abv qs := List.mem_filter.mpr ⟨List.mem_range.mpr hj, decide_eq_true (by rw [tOf_lt hj, e]; exact c)⟩
        rw [ha] at this
        exact absurd this List.not_mem_nil⟩⟩
      obtain ⟨y, h⟩ := both (ls := ls) ok okt m1 m2 hmi ha hm
      exact ⟨_, y, h⟩
    | cons k r =>
      obtain ⟨y, h⟩ := both_bad (ls := ls) (mi := mi) ok ha hm
      exact ⟨_, y, h⟩
  obtain ⟨z, y, hp, hd, hpp⟩ := B
  rw [run__law_asked]
  obtain ⟨G1, e1, x1⟩ := hd G hs
  have s1 := x1.at_ hs
  have b1 : bList [.ref ls] G1 = .ok (.ref G1.length) (G1 ++ [.lst (qs.map .int)]) := bList_seq (seqU_of s1)
  obtain ⟨lo, hlo⟩ : ∃ lo, lo = G1.length := ⟨_, rfl⟩
  obtain ⟨G2, hG2⟩ : ∃ G2, G2 = G1 ++ [OU.lst (qs.map .int)] := ⟨_, rfl⟩
  have x2 : Ex0 G1 G2 := by rw [hG2]; exact ex0_push _ _
  have o2 : G2[lo]? = some (.lst (qs.map .int)) := by rw [hG2, hlo]; exact push_at _ _
  rw [← hG2, ← hlo] at b1
  obtain ⟨G3, e3, x3⟩ := hpp (.ref lo) G2 (.inr ⟨lo, rfl, o2⟩)
  have sm := same_spec 39 _ G3 (pdn_told hp z)
  have eq3 : FL.eqU G3 (.ref lo) (.ref ls) = some true := by rw [eqU_refs (x3.at_ o2) ((x2.trans x3).at_ s1)]; simp
  refine ⟨G3, ?_, (x1.trans x2).trans x3⟩
  unfold g__law_asked
  obtain ⟨due, hdue⟩ : ∃ due, due = U.tup [.str z, y] := ⟨_, rfl⟩
  rw [← hdue] at e1 e3 sm
  rw [seq_nx (e' := [some (.int w), some (.ref ls), some (.int mi), some x, some due, none]) (G' := G1) (by simp [e1]), seq_nx (e' := [some (.int w), some (.ref ls), some (.int mi), some x, some due, some (.ref lo)]) (G' := G2) (by simp [b1])]
  simp [e3, sm, eq3]
end K09

set_option Elab.async false
set_option linter.all false
set_option maxRecDepth 100000
set_option maxHeartbeats 4000000
set_option autoImplicit false
namespace K09
open PySem PySem.Spec L2 FL

def EnvM (xs : List U) (lp : Nat) (si mi : Int) (lh lr : Nat) (be : U) (lc k cut other sums own value room : Option U) : Ev := [some (.rl xs), some (.ref 0), some (.ref lp), some (.int si), some (.int mi), some (.ref lh), some (.ref lr), some be, lc, k, cut, other, sums, own, value, room]
def CutsOK (ps : List Int) (s : Nat) (cs : List (List Nat)) : Prop := ∀ c ∈ cs, VC ps.length c ∧ c.length = s - 1
/-- what stays -/
structure Base (ps : List Int) (s m : Nat) (si mi : Int) (lp lh : Nat) (G : Gp) : Prop where
  ok : OkC ps
  s1 : 1 ≤ s
  s2 : s ≤ ps.length
  s6 : s ≤ 6
  hs : si = (s : Int)
  m1 : 1 ≤ m
  m2 : m ≤ 20
  hm : mi = (m : Int)
  lp0 : 0 < lp
  lh0 : 0 < lh
  hp : G[lp]? = some (.lst (ps.map .int))
  hh : G[lh]? = some (.lst (fL (Hs ps) (ps.length + 1)))
theorem Base.ex {ps : List Int} {s m : Nat} {si mi : Int} {lp lh : Nat} {G G' : Gp} (b : Base ps s m si mi lp lh G) (x : Ext G G') : Base ps s m si mi lp lh G' :=
  ⟨b.ok, b.s1, b.s2, b.s6, b.hs, b.m1, b.m2, b.hm, b.lp0, b.lh0, x.at_ b.lp0 b.hp, x.at_ b.lh0 b.hh⟩
section
variable {ps : List Int} {s m : Nat} {si mi : Int} {lp lh lr : Nat} {G : Gp} {xs : List U} {be : U} {lc k cut other sums own value room : Option U}
theorem sums_ok {c : List Nat} (b : Base ps s m si mi lp lh G) (hc : VC ps.length c ∧ c.length = s - 1) : ∃ (qs : List Int) (ls : Nat) (G' : Gp), F__law_sums [.ref lh, tupN c] G = .ok (.ref ls) G' ∧ Ex0 G G' ∧ G.length ≤ ls ∧ G'[ls]? = some (.lst (qs.map .int)) ∧ OkS qs ∧ qs.length = s := by
  have s1 := b.s1
  have s6 := b.s6
  obtain ⟨ls, G', e, x, hl, at_⟩ := sums_spec b.ok b.hh hc.1 (by rw [hc.2]; omega)
  have hlen : (smC ps c).length = s := by rw [smC_len, hc.2]; omega
  exact ⟨_, ls, G', e, x, hl, at_, ⟨by omega, by omega, smC_pos b.ok.ok.pos hc.1⟩, hlen⟩
/-- one cut's ticks -/
theorem turn_ticks {c : List Nat} {lcu : Option U} (b : Base ps s m si mi lp lh G) (hD : Dr G) (hc : VC ps.length c ∧ c.length = s - 1) :
    ∃ G', g_law_3 (EnvM xs lp si mi lh lr be lcu k (some (tupN c)) other sums own value room) G = .nx (EnvM xs lp si mi lh lr be lcu k (some (tupN c)) other sums own value room) G' ∧ Dr G' ∧ Ext G G' := by
  obtain ⟨q, G1, e1, a1, b1, o1, d1⟩ := next_spec (b := 2) hD (by decide)
  obtain ⟨qs, ls, G2, e2, x2, hl2, at2, ok2, hq⟩ := sums_ok (b.ex o1.ext) hc
  have mu : gMul (.int 5) (.int q) G1 = .ok (.int (5 * q)) G1 := gMul_ii (mulOk_small (by decide))
  have mo : Mo qs.length m (5 * q) .non := by
    have : q = 0 ∨ q = 1 := by omega
    rcases this with rfl | rfl
    · exact .pipe _
    · exact .pipe' _
  obtain ⟨G3, e3, x3⟩ := asked_spec ok2 b.m1 b.m2 b.hm mo at2
  refine ⟨G3, ?_, (x2.trans x3).dr d1, o1.ext.trans (x2.trans x3).ext⟩
  generalize tupN c = cu at e2 ⊢
  simp [EnvM, g_law_3, e1, mu, e2, e3]
/-- one cut's begins -/
theorem turn_pair {c : List Nat} {vo : Nat → Nat → Int} {lcu : Option U} (b : Base ps s m si mi lp lh G) (hD : Dr G) (hc : VC ps.length c ∧ c.length = s - 1) :
    ∃ (sums' own' value' room' : Option U) (G' : Gp), g_law_6 (EnvM xs lp si mi lh lr be lcu k (some (tupN c)) (some (tbU vo s m)) sums own value room) G = .nx (EnvM xs lp si mi lh lr be lcu k (some (tupN c)) (some (tbU vo s m)) sums' own' value' room') G' ∧ Dr G' ∧ Ext G G' := by
  have s1 := b.s1
  have s6 := b.s6
  have m1 := b.m1
  have m2 := b.m2
  have hs := b.hs
  have hm := b.hm
  obtain ⟨qs, ls, G1, e1, x1, hl1, at1, okq, hq⟩ := sums_ok b hc
  have hG := hD.len
  have hls : 0 < ls := by omega
  obtain ⟨G2, e2, x2⟩ := begins_spec okq at1 m1 m2 hm
  rw [tabU_eq, hq] at e2
  have x12 := x1.trans x2
  have d2 := x12.dr hD
  obtain ⟨ve, G3, e3, x3, d3⟩ := earlier_spec (v := B (tOf qs) s m) (n := s) (m := m) s1 m1 (by omega) (by omega) d2
  have x13 : Ext G1 G3 := x2.ext.trans x3
  have at3 := x13.at_ hls at1
  obtain ⟨cu, hcu⟩ : ∃ cu, cu = tupN c := ⟨_, rfl⟩
  rw [← hcu] at e1 ⊢
  let E (v r : Option U) : Ev := EnvM xs lp si mi lh lr be lcu k (some cu) (some (tbU vo s m)) (some (.ref ls)) (some (tbU (B (tOf qs) s m) s m)) v r
  have L1 : ∃ v' G', sFor (iOf (eTup (aCons (eVar 13) (aCons (eCall F__law_earlier (aCons (eVar 1) (aCons (eVar 13) aNil))) (aCons (eVar 11) aNil)))) kSeq) (gNm 14) g_law_4 (E value room) G2 = .nx (E v' room) G' ∧ Ext G3 G' ∧ Dr G' := by
    let vs : List (Nat → Nat → Int) := [B (tOf qs) s m, ve, vo]
    refine sFor_tup (xs := vs.map fun v => tbU v s m) (G1 := G3) (fun i ev G' => ∃ v', ev = E v' room ∧ Ext G3 G' ∧ Dr G') (fun r => ∃ v' G', r = .nx (E v' room) G' ∧ Ext G3 G' ∧ Dr G') ?_ ⟨_, rfl, Ext.refl _, d3⟩ ?_ ?_
    · show _ = R.ok (U.tup [tbU (B (tOf qs) s m) s m, tbU ve s m, tbU vo s m]) G3
      simp only [E]
      generalize tbU (B (tOf qs) s m) s m = z1 at e3 ⊢
      generalize tbU ve s m = z2 at e3 ⊢
      generalize tbU vo s m = z3
      simp [EnvM, e3]
    · intro i hi ev G' hI
      obtain ⟨v', he, x', d'⟩ := hI
      rw [List.getElem_map]
      generalize vs[i]'(by simpa using hi) = v
      obtain ⟨G4, e4, x4⟩ := asked_spec (w := 2) (x := tbU v s m) okq m1 m2 hm (by rw [← hq]; exact .hold v) (x'.at_ hls at3)
      have fine : (gNm 14 (tbU v s m) (E v' room) G').andThen (E v' room) (fun env1 G1 => g_law_4 env1 G1) = .nx (E (some (tbU v s m)) room) G4 := by
        rw [gNm_, r_then_ok]
        show g_law_4 (E (some (tbU v s m)) room) G' = _
        simp only [E]
        generalize tbU v s m = z at e4 ⊢
        generalize tbU (B (tOf qs) s m) s m = z1
        generalize tbU vo s m = z3
        simp [EnvM, g_law_4, e4]
      subst he
      rw [fine]
      exact ⟨_, rfl, x'.trans x4.ext, x4.dr d'⟩
    · intro ev G' hI
      obtain ⟨v', he, x', d'⟩ := hI
      subst he
      exact ⟨v', G', rfl, x', d'⟩
  obtain ⟨v5, G5, L1, x35, d5⟩ := L1
  have at5 := x35.at_ hls at3
  obtain ⟨q6, G6, e6, a6, b6, o6, d6⟩ := next_spec (b := 20) d5 (by decide)
  have at6 := o6.ext.at_ hls at5
  have L2 : ∃ r' G', sFor (iOf (eTup (aCons (eC (.int 1)) (aCons (eVar 3) (aCons (eBin gAdd (eC (.int 1)) (eCall F__law_next (aCons (eVar 1) (aCons (eC (.int 20)) aNil)))) aNil)))) kSeq) (gNm 15) g_law_5 (E v5 room) G5 = .nx (E v5 r') G' ∧ Ext G6 G' ∧ Dr G' := by
    let rs : List Int := [1, si, 1 + q6]
    have hrs : ∀ r ∈ rs, 1 ≤ r ∧ r ≤ 20 := fun r hr => by
      simp only [rs, List.mem_cons, List.not_mem_nil, or_false] at hr
      rcases hr with rfl | rfl | rfl <;> omega
    refine sFor_tup (xs := rs.map .int) (G1 := G6) (fun i ev G' => ∃ r', ev = E v5 r' ∧ Ext G6 G' ∧ Dr G') (fun r => ∃ r' G', r = .nx (E v5 r') G' ∧ Ext G6 G' ∧ Dr G') ?_ ⟨_, rfl, Ext.refl _, d6⟩ ?_ ?_
    · simp only [E]
      generalize tbU (B (tOf qs) s m) s m = z1
      generalize tbU vo s m = z3
      simp [EnvM, e6, rs]
    · intro i hi ev G' hI
      obtain ⟨r', he, x', d'⟩ := hI
      have hi' : i < rs.length := by simpa using hi
      rw [List.getElem_map]
      have hr := hrs _ (List.getElem_mem hi')
      generalize rs[i] = r at hr ⊢
      obtain ⟨G7, e7, x7⟩ := asked_spec (w := 3) (x := .int r) okq m1 m2 hm (.tick r.toNat r (by omega) (by omega) (by omega)) (x'.at_ hls at6)
      have fine : (gNm 15 (.int r) (E v5 r') G').andThen (E v5 r') (fun env1 G1 => g_law_5 env1 G1) = .nx (E v5 (some (.int r))) G7 := by
        rw [gNm_, r_then_ok]
        show g_law_5 (E v5 (some (.int r))) G' = _
        simp only [E]
        generalize tbU (B (tOf qs) s m) s m = z1
        generalize tbU vo s m = z3
        simp [EnvM, g_law_5, e7]
      subst he
      rw [fine]
      exact ⟨_, rfl, x'.trans x7.ext, x7.dr d'⟩
    · intro ev G' hI
      obtain ⟨r', he, x', d'⟩ := hI
      subst he
      exact ⟨r', G', rfl, x', d'⟩
  obtain ⟨r7, G7, L2, x67, d7⟩ := L2
  have at7 := x67.at_ hls at6
  obtain ⟨G8, e8, x8⟩ := asked_spec (w := 1) (x := .non) okq m1 m2 hm (.beg _) at7
  obtain ⟨q9, G9, e9, a9, b9, o9, d9⟩ := next_spec (b := 20) (x8.dr d7) (by decide)
  obtain ⟨G10, e10, x10⟩ := asked_spec (w := 4) (x := .int (1 + q9)) okq m1 m2 hm (.late (1 + q9).toNat (1 + q9) (by omega) (by omega) (by omega)) (o9.ext.at_ hls (x8.at_ at7))
  refine ⟨some (.ref ls), some (tbU (B (tOf qs) s m) s m), v5, r7, G10, ?_, x10.dr d9, ?_⟩
  · unfold g_law_6
    rw [seq_nx (e' := EnvM xs lp si mi lh lr be lcu k (some cu) (some (tbU vo s m)) (some (.ref ls)) own value room) (G' := G1) (by
      generalize tbU vo s m = z3
      simp [EnvM, e1]), seq_nx (e' := E value room) (G' := G2) (by
      simp only [E]
      generalize tbU (B (tOf qs) s m) s m = z1 at e2 ⊢
      generalize tbU vo s m = z3
      simp [EnvM, e2]), seq_nx L1, seq_nx L2]
    simp only [E]
    generalize tbU (B (tOf qs) s m) s m = z1
    generalize tbU vo s m = z3
    simp [EnvM, e8, e9, e10]
  · exact ((((((x12.ext.trans x3).trans x35).trans o6.ext).trans x67).trans x8.ext).trans o9.ext).trans x10.ext
/-- nine cuts -/
theorem draw_cuts {c0 : List Nat} {k : Option U} (b : Base ps s m si mi lp lh G) (hD : Dr G) (hc : VC ps.length c0 ∧ c0.length = s - 1) :
    ∃ (k' : Option U) (cs : List (List Nat)) (G' : Gp), sFor (iOfs (aCons (eC (.int 8)) aNil) kRng1) (gNm 9) g_law_1 (EnvM xs lp si mi lh lr be (some (.ref G.length)) k none none none none none none) (G ++ [.lst [tupN c0]]) = .nx (EnvM xs lp si mi lh lr be (some (.ref G.length)) k' none none none none none none) G' ∧ G'[G.length]? = some (.lst (cs.map tupN)) ∧ CutsOK ps s cs ∧ cs.length = 9 ∧ Dr G' ∧ Ext G G' := by
  have h0 := hD.len
  refine sFor_rng1 (j := 8) (G1 := G ++ [.lst [tupN c0]]) (fun i ev G' => ∃ (k' : Option U) (cs : List (List Nat)), ev = EnvM xs lp si mi lh lr be (some (.ref G.length)) k' none none none none none none ∧ G'[G.length]? = some (.lst (cs.map tupN)) ∧ CutsOK ps s cs ∧ cs.length = i + 1 ∧ Dr G' ∧ Ext G G')
    (fun r => ∃ (k' : Option U) (cs : List (List Nat)) (G' : Gp), r = .nx (EnvM xs lp si mi lh lr be (some (.ref G.length)) k' none none none none none none) G' ∧ G'[G.length]? = some (.lst (cs.map tupN)) ∧ CutsOK ps s cs ∧ cs.length = 9 ∧ Dr G' ∧ Ext G G') (by simp) (by omega) (by omega) ⟨k, [c0], rfl, push_at _ _, fun c hc' => by rw [List.mem_singleton] at hc'; rw [hc']; exact hc, rfl, dr_push hD _, ext_push _ _⟩ ?_ ?_
  · intro i hi ev G1 hI
    obtain ⟨k', cs, he, at1, hcs, hl, d1, x1⟩ := hI
    have b1 := b.ex x1
    have bl1 : bLen [.ref lp] G1 = .ok (.int (ps.length : Nat)) G1 := blen_ref b1.hp
    obtain ⟨ni, hni⟩ : ∃ ni : Int, ni = (ps.length : Int) := ⟨_, rfl⟩
    rw [← hni] at bl1
    obtain ⟨c, G2, e2, vc2, cl2, d2, x2⟩ := drawn_spec b.ok.2.1 b.s1 b.s2 hni b.hs d1
    have at2 := x2.at_ h0 at1
    have ap : mAppend (.ref G.length) [tupN c] G2 = .ok .non (G2.set G.length (.lst ((cs ++ [c]).map tupN))) := by
      rw [mAppend_ref at2 (by rw [List.length_map]; omega), List.map_append]; rfl
    have il1 := isLst_ref at1
    have il2 := isLst_ref at2
    obtain ⟨ii, hii⟩ : ∃ ii : Int, ii = (i : Int) := ⟨_, rfl⟩
    rw [← hii]
    have fine : (gNm 9 (.int ii) (EnvM xs lp si mi lh lr be (some (.ref G.length)) k' none none none none none none) G1).andThen (EnvM xs lp si mi lh lr be (some (.ref G.length)) k' none none none none none none) (fun env1 G1 => g_law_1 env1 G1) = .nx (EnvM xs lp si mi lh lr be (some (.ref G.length)) (some (.int ii)) none none none none none none) (G2.set G.length (.lst ((cs ++ [c]).map tupN))) := by
      generalize (cs ++ [c]).map tupN = zs at ap ⊢
      generalize tupN c = z at e2 ap
      simp [EnvM, g_law_1, bl1, e2, eMeth_, il1, il2, ap]
    subst he
    rw [fine]
    refine ⟨_, cs ++ [c], rfl, set_get at2, fun c' hc' => ?_, by simp [hl], dr_set d2 (by omega) _, ext_set (x1.trans x2) (Nat.le_refl _) _⟩
    rcases List.mem_append.mp hc' with hc' | hc'
    · exact hcs c' hc'
    · rw [List.mem_singleton] at hc'; rw [hc']; exact ⟨vc2, cl2⟩
  · intro ev G1 hI
    obtain ⟨k', cs, he, at1, hcs, hl, d1, x1⟩ := hI
    subst he
    exact ⟨k', cs, G1, rfl, at1, hcs, hl, d1, x1⟩
/-- or all -/
theorem all_cuts {cs : List (List Nat)} {l : Nat} {k : Option U} {c0 : List Nat} (b : Base ps s m si mi lp lh G) (hD : Dr G) (hl0 : 0 < l) (hl : G[l]? = some (.lst (cs.map tupN))) (hcs : CutsOK ps s cs) (hln : cs.length = 9) (hc : VC ps.length c0 ∧ c0.length = s - 1) (hbe : be = tupN c0) :
    ∃ (l' : Nat) (cs' : List (List Nat)) (G' : Gp), sIf (tOrB (bVal (eBin gLt (eCall bLen (aCons (eVar 2) aNil)) (eC (.int 8)))) (bVal (eBin gLt (eVar 3) (eC (.int 3))))) g_law_2 sNil (EnvM xs lp si mi lh lr be (some (.ref l)) k none none none none none none) G = .nx (EnvM xs lp si mi lh lr be (some (.ref l')) k none none none none none none) G' ∧ 0 < l' ∧ G'[l']? = some (.lst (cs'.map tupN)) ∧ CutsOK ps s cs' ∧ 1 ≤ cs'.length ∧ cs'.length ≤ 20000 ∧ Dr G' ∧ Ext G G' := by
  have n14 := b.ok.2.1
  have h0 := hD.len
  have bl : bLen [.ref lp] G = .ok (.int (ps.length : Nat)) G := blen_ref b.hp
  obtain ⟨ni, hni⟩ : ∃ ni : Int, ni = (ps.length : Int) := ⟨_, rfl⟩
  rw [← hni] at bl
  by_cases c : ni < 8 ∨ si < 3
  · obtain ⟨G1, hG1⟩ : ∃ G1, G1 = G ++ [OU.lst [be]] := ⟨_, rfl⟩
    have x1 : Ex0 G G1 := by rw [hG1]; exact ex0_push _ _
    have at1 : G1[G.length]? = some (.lst [be]) := by rw [hG1]; exact push_at _ _
    have bl1 : bLen [.ref lp] G1 = .ok (.int ni) G1 := by rw [hni]; exact blen_ref (x1.at_ b.hp)
    obtain ⟨le, G2, e2, x2, at2, hle⟩ := every_spec n14 b.s1 b.s2 G1
    rw [← hni, ← b.hs] at e2
    have el := ev_len (size := ps.length) (count := s) (k := s - 1) (by have := b.s1; omega) n14
    have ga : gAdd (.ref G.length) (.ref le) G2 = .ok (.ref G2.length) (G2 ++ [.lst ((c0 :: Ev' ps.length s (s - 1)).map tupN)]) := by
      unfold gAdd
      simp only [x2.at_ at1, at2]
      rw [if_pos (by simp; omega), hbe]
      rfl
    have x02 := x1.trans x2
    refine ⟨G2.length, c0 :: Ev' ps.length s (s - 1), _, ?_, by have := x02.1; omega, push_at _ _, fun c' hc' => ?_, by simp, by simp; omega, dr_push (x02.dr hD) _, x02.ext.trans (ext_push _ _)⟩
    · generalize (c0 :: Ev' ps.length s (s - 1)).map tupN = zs at ga ⊢
      have body : g_law_2 (EnvM xs lp si mi lh lr be (some (.ref l)) k none none none none none none) G = .nx (EnvM xs lp si mi lh lr be (some (.ref G2.length)) k none none none none none none) (G2 ++ [.lst zs]) := by
        simp [EnvM, g_law_2, ← hG1, bl1, e2, ga]
      rw [← body]
      by_cases c1 : ni < 8
      · simp [EnvM, bl, c1]
      · have c2 : si < 3 := by omega
        simp [EnvM, bl, c1, c2]
    · rcases List.mem_cons.mp hc' with rfl | hc'
      · exact hc
      · exact ev_vc b.s2 b.s1 hc'
  · have c1 : ¬ ni < 8 := fun z => c (Or.inl z)
    have c2 : ¬ si < 3 := fun z => c (Or.inr z)
    refine ⟨l, cs, G, ?_, hl0, hl, hcs, by omega, by omega, hD, Ext.refl _⟩
    simp [EnvM, bl, c1, c2]
/-- a drawn cut -/
theorem drawn_cut {cs : List (List Nat)} {l : Nat} (hD : Dr G) (hl0 : 0 < l) (hl : G[l]? = some (.lst (cs.map tupN))) (h1 : 1 ≤ cs.length) :
    ∃ (c : List Nat) (j : Int) (G' : Gp), c ∈ cs ∧ F__law_next [.ref 0, .int (cs.length : Nat)] G = .ok (.int j) G' ∧ gIdx (.ref l) (.int j) G' = .ok (tupN c) G' ∧ bLen [.ref l] G = .ok (.int (cs.length : Nat)) G ∧ Dr G' ∧ Ext G G' := by
  obtain ⟨j, G1, e1, a1, b1, o1, d1⟩ := next_spec (b := (cs.length : Nat)) hD (by omega)
  have hj : j.toNat < cs.length := by omega
  refine ⟨cs[j.toNat], j, G1, List.getElem_mem hj, e1, ?_, ?_, d1, o1.ext⟩
  · exact gIdx_ref (o1.ext.at_ hl0 hl) (atI_pos a1 (by rw [List.getElem?_map, List.getElem?_eq_getElem hj]; rfl))
  · rw [bLen_seq (seqU_of hl), List.length_map]
end
theorem law_true (ns : List Int) (h1 : ns.length ≤ 63) (h2 : ∀ z ∈ ns, Builtin.Int.intBits z ≤ 1048576) : ∃ G', F_law [.rl (ns.map U.int)] [] = .ok (.bl true) G' := by
  rw [run_law]
  obtain ⟨G1, e1, _, d1⟩ := draws_spec h1 h2
  obtain ⟨lp, G2, ps, e2, p2, hlp, ok, d2, _⟩ := prices_spec d1
  have n1 := ok.1
  have n14 := ok.2.1
  have bl2 : bLen [.ref lp] G2 = .ok (.int (ps.length : Nat)) G2 := blen_ref p2
  obtain ⟨ni, hni⟩ : ∃ ni : Int, ni = (ps.length : Int) := ⟨_, rfl⟩
  rw [← hni] at bl2
  obtain ⟨q3, G3, e3, a3, b3, o3, d3⟩ := next_spec (b := min 6 ni) d2 (by omega)
  obtain ⟨q4, G4, e4, a4, b4, o4, d4⟩ := next_spec (b := 20) d3 (by decide)
  obtain ⟨si, hsi⟩ : ∃ si, si = 1 + q3 := ⟨_, rfl⟩
  obtain ⟨s, hs⟩ : ∃ s : Nat, si = (s : Int) := ⟨si.toNat, by omega⟩
  obtain ⟨mi, hmi⟩ : ∃ mi, mi = 1 + q4 := ⟨_, rfl⟩
  obtain ⟨m, hm⟩ : ∃ m : Nat, mi = (m : Int) := ⟨mi.toNat, by omega⟩
  have p4 := (o3.ext.trans o4.ext).at_ hlp p2
  have h04 := d4.len
  obtain ⟨G5, e5, x5, at5⟩ := heaps_spec ok p4
  obtain ⟨lh, hlh⟩ : ∃ lh, lh = G4.length := ⟨_, rfl⟩
  rw [← hlh] at e5 at5
  obtain ⟨lr, G6, e6, x6, rt6⟩ := rest_spec ok at5
  have p6 := (x5.trans x6).at_ p4
  have hh6 := x6.at_ at5
  obtain ⟨T, c0, d0, qc⟩ := qc_ex (s := s) (si := si) ok (by omega) (by omega) hs
  obtain ⟨G7, e7, x7⟩ := cut_right qc p6 hh6 rt6
  have p7 := x7.at_ p6
  have hh7 := x7.at_ hh6
  obtain ⟨G8, e8, x8⟩ := first_spec ok hh7 (rt6.ex x7) qc.s1 qc.s2 hs qc.hT qc.gre
  have d8 := (((x5.trans x6).trans x7).trans x8).dr d4
  have b8 : Base ps s m si mi lp lh G8 := ⟨ok, by omega, by omega, by omega, hs, by omega, by omega, hm, hlp, by omega, x8.at_ p7, x8.at_ hh7⟩
  have hc0 : VC ps.length c0 ∧ c0.length = s - 1 := ⟨gre_vc _ _ _ qc.gre n1, gre_len _ _ _ qc.gre⟩
  generalize hxs : ns.map U.int = xs at e1
  have h08 := d8.len
  obtain ⟨be, hbe⟩ : ∃ be, be = tupN c0 := ⟨_, rfl⟩
  obtain ⟨k9, cs9, G9, L9, at9, hcs9, hln9, d9, x9⟩ := draw_cuts (xs := xs) (lr := lr) (be := be) (k := none) b8 d8 hc0
  obtain ⟨lc, cs, G10, e10, hlc, at10, hcs, hl1, hl2, d10, x10⟩ := all_cuts (xs := xs) (lr := lr) (be := be) (k := k9) (b8.ex x9) d9 h08 at9 hcs9 hln9 hc0 hbe
  have b10 := (b8.ex x9).ex x10
  have L11 : ∃ cu G11, sFor (iOf (eVar 8) kSeq) (gNm 10) g_law_3 (EnvM xs lp si mi lh lr be (some (.ref lc)) k9 none none none none none none) G10 = .nx (EnvM xs lp si mi lh lr be (some (.ref lc)) k9 cu none none none none none) G11 ∧ Dr G11 ∧ Ext G10 G11 := by
    refine sFor_ref (l := lc) (xs := cs.map tupN) (G1 := G10) (fun i ev G' => ∃ cu, ev = EnvM xs lp si mi lh lr be (some (.ref lc)) k9 cu none none none none none ∧ Dr G' ∧ Ext G10 G') (fun r => ∃ cu G11, r = .nx (EnvM xs lp si mi lh lr be (some (.ref lc)) k9 cu none none none none none) G11 ∧ Dr G11 ∧ Ext G10 G11) (by simp [EnvM]) at10 (fun i ev G' hI => by
      obtain ⟨cu, _, _, x⟩ := hI
      exact x.at_ hlc at10) ⟨none, rfl, d10, Ext.refl _⟩ ?_ ?_
    · intro i hi ev G' hI
      obtain ⟨cu, he, d', x'⟩ := hI
      have hi' : i < cs.length := by simpa using hi
      rw [List.getElem_map]
      have hc := hcs _ (List.getElem_mem hi')
      generalize cs[i] = c at hc ⊢
      obtain ⟨G12, e12, d12, x12⟩ := turn_ticks (xs := xs) (lr := lr) (be := be) (k := k9) (other := none) (sums := none) (own := none) (value := none) (room := none) (lcu := some (.ref lc)) (b10.ex x') d' hc
      have fine : (gNm 10 (tupN c) (EnvM xs lp si mi lh lr be (some (.ref lc)) k9 cu none none none none none) G').andThen (EnvM xs lp si mi lh lr be (some (.ref lc)) k9 cu none none none none none) (fun env1 G1 => g_law_3 env1 G1) = .nx (EnvM xs lp si mi lh lr be (some (.ref lc)) k9 (some (tupN c)) none none none none none) G12 := by
        rw [gNm_, r_then_ok, ← e12]
        rfl
      subst he
      rw [fine]
      exact ⟨_, rfl, d12, x'.trans x12⟩
    · intro ev G' hI
      obtain ⟨cu, he, d', x'⟩ := hI
      subst he
      exact ⟨cu, G', rfl, d', x'⟩
  obtain ⟨cu, G11, L11, d11, x11⟩ := L11
  have b11 := b10.ex x11
  have at11 := x11.at_ hlc at10
  obtain ⟨c12, j12, G12, hc12, e12, i12, bl12, d12, x12⟩ := drawn_cut d11 hlc at11 hl1
  obtain ⟨qs, ls, G13, e13, x13, hl13, at13, okq, hq⟩ := sums_ok (b11.ex x12) (hcs _ hc12)
  obtain ⟨G14, e14, x14⟩ := begins_spec okq at13 b8.m1 b8.m2 hm
  rw [tabU_eq, hq] at e14
  obtain ⟨vo, hvo⟩ : ∃ vo, vo = B (tOf qs) s m := ⟨_, rfl⟩
  rw [← hvo] at e14
  have x11_14 : Ext G11 G14 := x12.trans (x13.trans x14).ext
  have d14 := (x13.trans x14).dr d12
  have b14 := b11.ex x11_14
  obtain ⟨c15, j15, G15, hc15, e15, i15, bl15, d15, x15⟩ := drawn_cut d14 hlc (x11_14.at_ hlc at11) hl1
  have b15 := b14.ex x15
  have L16 : ∃ cu' su ow va ro G16, sFor (iOf (eTup (aCons (eVar 7) (aCons (eBin gIdx (eVar 8) (eCall F__law_next (aCons (eVar 1) (aCons (eCall bLen (aCons (eVar 8) aNil)) aNil)))) aNil))) kSeq) (gNm 10) g_law_6 (EnvM xs lp si mi lh lr be (some (.ref lc)) k9 cu (some (tbU vo s m)) none none none none) G14 = .nx (EnvM xs lp si mi lh lr be (some (.ref lc)) k9 cu' (some (tbU vo s m)) su ow va ro) G16 := by
    let cl : List (List Nat) := [c0, c15]
    have hcl : ∀ c ∈ cl, VC ps.length c ∧ c.length = s - 1 := fun c hc => by
      simp only [cl, List.mem_cons, List.not_mem_nil, or_false] at hc
      rcases hc with rfl | rfl
      · exact hc0
      · exact hcs _ hc15
    refine sFor_tup (xs := cl.map tupN) (G1 := G15) (fun i ev G' => ∃ cu' su ow va ro, ev = EnvM xs lp si mi lh lr be (some (.ref lc)) k9 cu' (some (tbU vo s m)) su ow va ro ∧ Dr G' ∧ Ext G15 G') (fun r => ∃ cu' su ow va ro G16, r = .nx (EnvM xs lp si mi lh lr be (some (.ref lc)) k9 cu' (some (tbU vo s m)) su ow va ro) G16) ?_ ⟨_, _, _, _, _, rfl, d15, Ext.refl _⟩ ?_ ?_
    · show _ = R.ok (U.tup [tupN c0, tupN c15]) G15
      rw [← hbe]
      generalize tupN c15 = z1 at i15 ⊢
      generalize tbU vo s m = z2
      generalize ((cs.length : Nat) : Int) = li at e15 bl15
      simp [EnvM, bl15, e15, i15]
    · intro i hi ev G' hI
      obtain ⟨cu', su, ow, va, ro, he, d', x'⟩ := hI
      have hi' : i < cl.length := by simpa using hi
      rw [List.getElem_map]
      have hc := hcl _ (List.getElem_mem hi')
      generalize cl[i] = c at hc ⊢
      obtain ⟨su', ow', va', ro', G17, e17, d17, x17⟩ := turn_pair (xs := xs) (lr := lr) (be := be) (k := k9) (sums := su) (own := ow) (value := va) (room := ro) (lcu := some (.ref lc)) (vo := vo) (b15.ex x') d' hc
      have fine : (gNm 10 (tupN c) (EnvM xs lp si mi lh lr be (some (.ref lc)) k9 cu' (some (tbU vo s m)) su ow va ro) G').andThen (EnvM xs lp si mi lh lr be (some (.ref lc)) k9 cu' (some (tbU vo s m)) su ow va ro) (fun env1 G1 => g_law_6 env1 G1) = .nx (EnvM xs lp si mi lh lr be (some (.ref lc)) k9 (some (tupN c)) (some (tbU vo s m)) su' ow' va' ro') G17 := by
        rw [gNm_, r_then_ok, ← e17]
        rfl
      subst he
      rw [fine]
      exact ⟨_, _, _, _, _, rfl, d17, x'.trans x17⟩
    · intro ev G' hI
      obtain ⟨cu', su, ow, va, ro, he, d', x'⟩ := hI
      subst he
      exact ⟨_, _, _, _, _, G', rfl⟩
  obtain ⟨cu', su, ow, va, ro, G16, L16⟩ := L16
  refine ⟨G16, ?_⟩
  rw [← hbe] at e8 L9
  unfold g_law
  rw [seq_nx (e' := [some (.rl xs), some (.ref 0), none, none, none, none, none, none, none, none, none, none, none, none, none, none]) (G' := G1) (by simp [e1]),
    seq_nx (e' := [some (.rl xs), some (.ref 0), some (.ref lp), none, none, none, none, none, none, none, none, none, none, none, none, none]) (G' := G2) (by simp [e2]),
    seq_nx (e' := [some (.rl xs), some (.ref 0), some (.ref lp), some (.int si), none, none, none, none, none, none, none, none, none, none, none, none]) (G' := G3) (by simp [bl2, e3, hsi]),
    seq_nx (e' := [some (.rl xs), some (.ref 0), some (.ref lp), some (.int si), some (.int mi), none, none, none, none, none, none, none, none, none, none, none]) (G' := G4) (by simp [e4, hmi]),
    seq_nx (e' := [some (.rl xs), some (.ref 0), some (.ref lp), some (.int si), some (.int mi), some (.ref lh), none, none, none, none, none, none, none, none, none, none]) (G' := G5) (by simp [e5]),
    seq_nx (e' := [some (.rl xs), some (.ref 0), some (.ref lp), some (.int si), some (.int mi), some (.ref lh), some (.ref lr), none, none, none, none, none, none, none, none, none]) (G' := G6) (by simp [e6]),
    seq_nx (e' := [some (.rl xs), some (.ref 0), some (.ref lp), some (.int si), some (.int mi), some (.ref lh), some (.ref lr), none, none, none, none, none, none, none, none, none]) (G' := G7) (by simp [e7]),
    seq_nx (e' := EnvM xs lp si mi lh lr be none none none none none none none none) (G' := G8) (by simp [EnvM, e8]),
    seq_nx (e' := EnvM xs lp si mi lh lr be (some (.ref G8.length)) none none none none none none none) (G' := G8 ++ [.lst [be]]) (by simp [EnvM]),
    seq_nx L9, seq_nx e10, seq_nx L11,
    seq_nx (e' := EnvM xs lp si mi lh lr be (some (.ref lc)) k9 cu (some (tbU vo s m)) none none none none) (G' := G14) (by
      generalize tbU vo s m = z2 at e14 ⊢
      generalize tupN c12 = z1 at i12 e13
      generalize ((cs.length : Nat) : Int) = li at e12 bl12
      simp [EnvM, bl12, e12, i12, e13, e14]), seq_nx L16]
  rfl
end K09

set_option Elab.async false
set_option linter.all false
set_option maxRecDepth 100000
set_option maxHeartbeats 8000000
set_option autoImplicit false

namespace K09
open PySem PySem.Spec L2 FL
def top (i : Nat) : Stmt := PySem.Challenge.pw_everydealt_k09_whole_stages_cut_and_pipe.main.body.getD i (.Pass ⟨0, 0, 0, 0⟩)
abbrev s__law_draws : Stmt := top 39
abbrev s__law_next : Stmt := top 40
abbrev s__law_prices : Stmt := top 42
abbrev s__law_heaps : Stmt := top 43
abbrev s__law_rest : Stmt := top 44
abbrev s__law_first : Stmt := top 45
abbrev s__law_begins : Stmt := top 50
abbrev s__law_paper : Stmt := top 49
abbrev s_is_integer : Stmt := top 5
abbrev s_is_from_to : Stmt := top 6
abbrev s_checked_row : Stmt := top 8
abbrev s_checked_costs : Stmt := top 26
abbrev s_check_number : Stmt := top 7
abbrev s_checked_cut : Stmt := top 27
abbrev s_is_pair_of : Stmt := top 36
abbrev s_top_paper_holds : Stmt := top 37
abbrev s__law_same : Stmt := top 41
abbrev s_stages_needed : Stmt := top 28
abbrev s_top_needed : Stmt := top 29
abbrev s_can_be_cut : Stmt := top 31
abbrev s_best_cut : Stmt := top 32
abbrev s_least_top : Stmt := top 30
abbrev s_fewest_stages : Stmt := top 33
abbrev s_shortest_from : Stmt := top 34
abbrev s_top_paper : Stmt := top 35
abbrev s__law_cut_right : Stmt := top 57
abbrev s__law_sums : Stmt := top 46
abbrev s__law_drawn : Stmt := top 48
abbrev s__law_every : Stmt := top 47
abbrev s__law_holds : Stmt := top 52
abbrev s__law_late : Stmt := top 51
abbrev s__law_due : Stmt := top 54
abbrev s_checked_times : Stmt := top 13
abbrev s_pipe_ticks : Stmt := top 17
abbrev s_begins_within : Stmt := top 14
abbrev s_begins : Stmt := top 16
abbrev s_is_table : Stmt := top 18
abbrev s_begins_hold : Stmt := top 19
abbrev s_end_of : Stmt := top 15
abbrev s_late_ticks : Stmt := top 21
abbrev s_least_late : Stmt := top 20
abbrev s__law_piped : Stmt := top 53
abbrev s__law_asked : Stmt := top 55
abbrev s__law_earlier : Stmt := top 56
abbrev s_law : Stmt := top 58
abbrev s_InvalidNumber : Stmt := inClass (top 2) 0
abbrev s_InvalidRow : Stmt := inClass (top 3) 0
def exN : List Str := ["DealError", "InvalidRow"]
def exK : List (List Str) := [["InvalidNumber"]]
def exF : List Str := ["place"]
structure EV (K : PySem.W.Frag) (mg : Str → Option Value) : Type where
  fd__law_draws : FuncData
  D__law_draws : FunD K "_law_draws" "_law_draws" (defArgs s__law_draws) (defBody s__law_draws) (defScope s__law_draws) [] [] (He.ga K "_law_draws") fd__law_draws
  g__law_draws : mg "_law_draws" = some (.ref (He.ga K "_law_draws"))
  fd__law_next : FuncData
  D__law_next : FunD K "_law_next" "_law_next" (defArgs s__law_next) (defBody s__law_next) (defScope s__law_next) [] [] (He.ga K "_law_next") fd__law_next
  g__law_next : mg "_law_next" = some (.ref (He.ga K "_law_next"))
  fd__law_prices : FuncData
  D__law_prices : FunD K "_law_prices" "_law_prices" (defArgs s__law_prices) (defBody s__law_prices) (defScope s__law_prices) [] [] (He.ga K "_law_prices") fd__law_prices
  g__law_prices : mg "_law_prices" = some (.ref (He.ga K "_law_prices"))
  fd__law_heaps : FuncData
  D__law_heaps : FunD K "_law_heaps" "_law_heaps" (defArgs s__law_heaps) (defBody s__law_heaps) (defScope s__law_heaps) [] [] (He.ga K "_law_heaps") fd__law_heaps
  g__law_heaps : mg "_law_heaps" = some (.ref (He.ga K "_law_heaps"))
  fd__law_rest : FuncData
  D__law_rest : FunD K "_law_rest" "_law_rest" (defArgs s__law_rest) (defBody s__law_rest) (defScope s__law_rest) [] [] (He.ga K "_law_rest") fd__law_rest
  g__law_rest : mg "_law_rest" = some (.ref (He.ga K "_law_rest"))
  fd__law_first : FuncData
  D__law_first : FunD K "_law_first" "_law_first" (defArgs s__law_first) (defBody s__law_first) (defScope s__law_first) [] [] (He.ga K "_law_first") fd__law_first
  g__law_first : mg "_law_first" = some (.ref (He.ga K "_law_first"))
  fd__law_begins : FuncData
  D__law_begins : FunD K "_law_begins" "_law_begins" (defArgs s__law_begins) (defBody s__law_begins) (defScope s__law_begins) [] [] (He.ga K "_law_begins") fd__law_begins
  g__law_begins : mg "_law_begins" = some (.ref (He.ga K "_law_begins"))
  fd__law_paper : FuncData
  D__law_paper : FunD K "_law_paper" "_law_paper" (defArgs s__law_paper) (defBody s__law_paper) (defScope s__law_paper) [] [] (He.ga K "_law_paper") fd__law_paper
  g__law_paper : mg "_law_paper" = some (.ref (He.ga K "_law_paper"))
  fd_is_integer : FuncData
  D_is_integer : FunD K "is_integer" "is_integer" (defArgs s_is_integer) (defBody s_is_integer) (defScope s_is_integer) [] [] (He.ga K "is_integer") fd_is_integer
  g_is_integer : mg "is_integer" = some (.ref (He.ga K "is_integer"))
  fd_is_from_to : FuncData
  D_is_from_to : FunD K "is_from_to" "is_from_to" (defArgs s_is_from_to) (defBody s_is_from_to) (defScope s_is_from_to) [] [] (He.ga K "is_from_to") fd_is_from_to
  g_is_from_to : mg "is_from_to" = some (.ref (He.ga K "is_from_to"))
  fd_checked_row : FuncData
  D_checked_row : FunD K "checked_row" "checked_row" (defArgs s_checked_row) (defBody s_checked_row) (defScope s_checked_row) [] [] (He.ga K "checked_row") fd_checked_row
  g_checked_row : mg "checked_row" = some (.ref (He.ga K "checked_row"))
  fd_checked_costs : FuncData
  D_checked_costs : FunD K "checked_costs" "checked_costs" (defArgs s_checked_costs) (defBody s_checked_costs) (defScope s_checked_costs) [] [] (He.ga K "checked_costs") fd_checked_costs
  g_checked_costs : mg "checked_costs" = some (.ref (He.ga K "checked_costs"))
  fd_check_number : FuncData
  D_check_number : FunD K "check_number" "check_number" (defArgs s_check_number) (defBody s_check_number) (defScope s_check_number) [] [] (He.ga K "check_number") fd_check_number
  g_check_number : mg "check_number" = some (.ref (He.ga K "check_number"))
  fd_checked_cut : FuncData
  D_checked_cut : FunD K "checked_cut" "checked_cut" (defArgs s_checked_cut) (defBody s_checked_cut) (defScope s_checked_cut) [] [] (He.ga K "checked_cut") fd_checked_cut
  g_checked_cut : mg "checked_cut" = some (.ref (He.ga K "checked_cut"))
  fd_is_pair_of : FuncData
  D_is_pair_of : FunD K "is_pair_of" "is_pair_of" (defArgs s_is_pair_of) (defBody s_is_pair_of) (defScope s_is_pair_of) [] [] (He.ga K "is_pair_of") fd_is_pair_of
  g_is_pair_of : mg "is_pair_of" = some (.ref (He.ga K "is_pair_of"))
  fd_top_paper_holds : FuncData
  D_top_paper_holds : FunD K "top_paper_holds" "top_paper_holds" (defArgs s_top_paper_holds) (defBody s_top_paper_holds) (defScope s_top_paper_holds) [] [] (He.ga K "top_paper_holds") fd_top_paper_holds
  g_top_paper_holds : mg "top_paper_holds" = some (.ref (He.ga K "top_paper_holds"))
  fd__law_same : FuncData
  D__law_same : FunD K "_law_same" "_law_same" (defArgs s__law_same) (defBody s__law_same) (defScope s__law_same) [] [] (He.ga K "_law_same") fd__law_same
  g__law_same : mg "_law_same" = some (.ref (He.ga K "_law_same"))
  fd_stages_needed : FuncData
  D_stages_needed : FunD K "stages_needed" "stages_needed" (defArgs s_stages_needed) (defBody s_stages_needed) (defScope s_stages_needed) [] [] (He.ga K "stages_needed") fd_stages_needed
  g_stages_needed : mg "stages_needed" = some (.ref (He.ga K "stages_needed"))
  fd_top_needed : FuncData
  D_top_needed : FunD K "top_needed" "top_needed" (defArgs s_top_needed) (defBody s_top_needed) (defScope s_top_needed) [] [] (He.ga K "top_needed") fd_top_needed
  g_top_needed : mg "top_needed" = some (.ref (He.ga K "top_needed"))
  fd_can_be_cut : FuncData
  D_can_be_cut : FunD K "can_be_cut" "can_be_cut" (defArgs s_can_be_cut) (defBody s_can_be_cut) (defScope s_can_be_cut) [] [] (He.ga K "can_be_cut") fd_can_be_cut
  g_can_be_cut : mg "can_be_cut" = some (.ref (He.ga K "can_be_cut"))
  fd_best_cut : FuncData
  D_best_cut : FunD K "best_cut" "best_cut" (defArgs s_best_cut) (defBody s_best_cut) (defScope s_best_cut) [] [] (He.ga K "best_cut") fd_best_cut
  g_best_cut : mg "best_cut" = some (.ref (He.ga K "best_cut"))
  fd_least_top : FuncData
  D_least_top : FunD K "least_top" "least_top" (defArgs s_least_top) (defBody s_least_top) (defScope s_least_top) [] [] (He.ga K "least_top") fd_least_top
  g_least_top : mg "least_top" = some (.ref (He.ga K "least_top"))
  fd_fewest_stages : FuncData
  D_fewest_stages : FunD K "fewest_stages" "fewest_stages" (defArgs s_fewest_stages) (defBody s_fewest_stages) (defScope s_fewest_stages) [] [] (He.ga K "fewest_stages") fd_fewest_stages
  g_fewest_stages : mg "fewest_stages" = some (.ref (He.ga K "fewest_stages"))
  fd_shortest_from : FuncData
  D_shortest_from : FunD K "shortest_from" "shortest_from" (defArgs s_shortest_from) (defBody s_shortest_from) (defScope s_shortest_from) [] [] (He.ga K "shortest_from") fd_shortest_from
  g_shortest_from : mg "shortest_from" = some (.ref (He.ga K "shortest_from"))
  fd_top_paper : FuncData
  D_top_paper : FunD K "top_paper" "top_paper" (defArgs s_top_paper) (defBody s_top_paper) (defScope s_top_paper) [] [] (He.ga K "top_paper") fd_top_paper
  g_top_paper : mg "top_paper" = some (.ref (He.ga K "top_paper"))
  fd__law_cut_right : FuncData
  D__law_cut_right : FunD K "_law_cut_right" "_law_cut_right" (defArgs s__law_cut_right) (defBody s__law_cut_right) (defScope s__law_cut_right) [] [] (He.ga K "_law_cut_right") fd__law_cut_right
  g__law_cut_right : mg "_law_cut_right" = some (.ref (He.ga K "_law_cut_right"))
  fd__law_sums : FuncData
  D__law_sums : FunD K "_law_sums" "_law_sums" (defArgs s__law_sums) (defBody s__law_sums) (defScope s__law_sums) [] [] (He.ga K "_law_sums") fd__law_sums
  g__law_sums : mg "_law_sums" = some (.ref (He.ga K "_law_sums"))
  fd__law_drawn : FuncData
  D__law_drawn : FunD K "_law_drawn" "_law_drawn" (defArgs s__law_drawn) (defBody s__law_drawn) (defScope s__law_drawn) [] [] (He.ga K "_law_drawn") fd__law_drawn
  g__law_drawn : mg "_law_drawn" = some (.ref (He.ga K "_law_drawn"))
  fd__law_every : FuncData
  D__law_every : FunD K "_law_every" "_law_every" (defArgs s__law_every) (defBody s__law_every) (defScope s__law_every) [] [] (He.ga K "_law_every") fd__law_every
  g__law_every : mg "_law_every" = some (.ref (He.ga K "_law_every"))
  fd__law_holds : FuncData
  D__law_holds : FunD K "_law_holds" "_law_holds" (defArgs s__law_holds) (defBody s__law_holds) (defScope s__law_holds) [] [] (He.ga K "_law_holds") fd__law_holds
  g__law_holds : mg "_law_holds" = some (.ref (He.ga K "_law_holds"))
  fd__law_late : FuncData
  D__law_late : FunD K "_law_late" "_law_late" (defArgs s__law_late) (defBody s__law_late) (defScope s__law_late) [] [] (He.ga K "_law_late") fd__law_late
  g__law_late : mg "_law_late" = some (.ref (He.ga K "_law_late"))
  fd__law_due : FuncData
  D__law_due : FunD K "_law_due" "_law_due" (defArgs s__law_due) (defBody s__law_due) (defScope s__law_due) [] [] (He.ga K "_law_due") fd__law_due
  g__law_due : mg "_law_due" = some (.ref (He.ga K "_law_due"))
  fd_checked_times : FuncData
  D_checked_times : FunD K "checked_times" "checked_times" (defArgs s_checked_times) (defBody s_checked_times) (defScope s_checked_times) [] [] (He.ga K "checked_times") fd_checked_times
  g_checked_times : mg "checked_times" = some (.ref (He.ga K "checked_times"))
  fd_pipe_ticks : FuncData
  D_pipe_ticks : FunD K "pipe_ticks" "pipe_ticks" (defArgs s_pipe_ticks) (defBody s_pipe_ticks) (defScope s_pipe_ticks) [] [] (He.ga K "pipe_ticks") fd_pipe_ticks
  g_pipe_ticks : mg "pipe_ticks" = some (.ref (He.ga K "pipe_ticks"))
  fd_begins_within : FuncData
  D_begins_within : FunD K "begins_within" "begins_within" (defArgs s_begins_within) (defBody s_begins_within) (defScope s_begins_within) [] [] (He.ga K "begins_within") fd_begins_within
  g_begins_within : mg "begins_within" = some (.ref (He.ga K "begins_within"))
  fd_begins : FuncData
  D_begins : FunD K "begins" "begins" (defArgs s_begins) (defBody s_begins) (defScope s_begins) [] [] (He.ga K "begins") fd_begins
  g_begins : mg "begins" = some (.ref (He.ga K "begins"))
  fd_is_table : FuncData
  D_is_table : FunD K "is_table" "is_table" (defArgs s_is_table) (defBody s_is_table) (defScope s_is_table) [] [] (He.ga K "is_table") fd_is_table
  g_is_table : mg "is_table" = some (.ref (He.ga K "is_table"))
  fd_begins_hold : FuncData
  D_begins_hold : FunD K "begins_hold" "begins_hold" (defArgs s_begins_hold) (defBody s_begins_hold) (defScope s_begins_hold) [] [] (He.ga K "begins_hold") fd_begins_hold
  g_begins_hold : mg "begins_hold" = some (.ref (He.ga K "begins_hold"))
  fd_end_of : FuncData
  D_end_of : FunD K "end_of" "end_of" (defArgs s_end_of) (defBody s_end_of) (defScope s_end_of) [] [] (He.ga K "end_of") fd_end_of
  g_end_of : mg "end_of" = some (.ref (He.ga K "end_of"))
  fd_late_ticks : FuncData
  D_late_ticks : FunD K "late_ticks" "late_ticks" (defArgs s_late_ticks) (defBody s_late_ticks) (defScope s_late_ticks) [] [] (He.ga K "late_ticks") fd_late_ticks
  g_late_ticks : mg "late_ticks" = some (.ref (He.ga K "late_ticks"))
  fd_least_late : FuncData
  D_least_late : FunD K "least_late" "least_late" (defArgs s_least_late) (defBody s_least_late) (defScope s_least_late) [] [] (He.ga K "least_late") fd_least_late
  g_least_late : mg "least_late" = some (.ref (He.ga K "least_late"))
  fd__law_piped : FuncData
  D__law_piped : FunD K "_law_piped" "_law_piped" (defArgs s__law_piped) (defBody s__law_piped) (defScope s__law_piped) [] [] (He.ga K "_law_piped") fd__law_piped
  g__law_piped : mg "_law_piped" = some (.ref (He.ga K "_law_piped"))
  fd__law_asked : FuncData
  D__law_asked : FunD K "_law_asked" "_law_asked" (defArgs s__law_asked) (defBody s__law_asked) (defScope s__law_asked) [] [] (He.ga K "_law_asked") fd__law_asked
  g__law_asked : mg "_law_asked" = some (.ref (He.ga K "_law_asked"))
  fd__law_earlier : FuncData
  D__law_earlier : FunD K "_law_earlier" "_law_earlier" (defArgs s__law_earlier) (defBody s__law_earlier) (defScope s__law_earlier) [] [] (He.ga K "_law_earlier") fd__law_earlier
  g__law_earlier : mg "_law_earlier" = some (.ref (He.ga K "_law_earlier"))
  fd_law : FuncData
  D_law : FunD K "law" "law" (defArgs s_law) (defBody s_law) (defScope s_law) [] [] (He.ga K "law") fd_law
  g_law : mg "law" = some (.ref (He.ga K "law"))
  fd_InvalidNumber : FuncData
  D_InvalidNumber : FunD K "__init__" "InvalidNumber.__init__" (defArgs s_InvalidNumber) (defBody s_InvalidNumber) (defScope s_InvalidNumber) [] [] (He.ma K (He.ga K "InvalidNumber") "__init__") fd_InvalidNumber
  x_InvalidNumber : ExK K mg "InvalidNumber" (He.ma K (He.ga K "InvalidNumber") "__init__") ["number"]
  fd_InvalidRow : FuncData
  D_InvalidRow : FunD K "__init__" "InvalidRow.__init__" (defArgs s_InvalidRow) (defBody s_InvalidRow) (defScope s_InvalidRow) [] [] (He.ma K (He.ga K "InvalidRow") "__init__") fd_InvalidRow
  x_InvalidRow : ExK K mg "InvalidRow" (He.ma K (He.ga K "InvalidRow") "__init__") ["place"]
  g_DealError : mg "DealError" = some (.ref (He.ga K "DealError"))
  g_InvalidNumber : mg "InvalidNumber" = some (.ref (He.ga K "InvalidNumber"))
  g_InvalidRow : mg "InvalidRow" = some (.ref (He.ga K "InvalidRow"))
  c_MOST_COST : ∃ t, mg "MOST_COST" = some (.int 1000 t)
  c_MOST_COSTS : ∃ t, mg "MOST_COSTS" = some (.int 14 t)
  c_MOST_ITEMS : ∃ t, mg "MOST_ITEMS" = some (.int 20 t)
  c_MOST_STAGES : ∃ t, mg "MOST_STAGES" = some (.int 6 t)
  c_MOST_TICKS : ∃ t, mg "MOST_TICKS" = some (.int 20 t)
  c_MOST_TOP : ∃ t, mg "MOST_TOP" = some (.int 20000 t)
  f_all : mg "all" = none
  f_bool : mg "bool" = none
  f_enumerate : mg "enumerate" = none
  f_int : mg "int" = none
  f_isinstance : mg "isinstance" = none
  f_len : mg "len" = none
  f_list : mg "list" = none
  f_max : mg "max" = none
  f_min : mg "min" = none
  f_range : mg "range" = none
  f_reversed : mg "reversed" = none
  f_str : mg "str" = none
  f_sum : mg "sum" = none
  f_tuple : mg "tuple" = none
  ex : EX K exT exN exK exF
section
variable {P : Program} {w : World} {K : PySem.W.Frag} {mg : Str → Option Value} {base : Heap}
theorem sc_InvalidNumber : FnScope ["self", "number"] ["self", "number"] (defScope s_InvalidNumber) := ⟨rfl, rfl, rfl, by decide +kernel, rfl, by decide +kernel, by decide +kernel⟩
theorem okx_InvalidNumber (E : EV K mg) : FnOk P w K mg base (CX P w) 1 (He.ma K (He.ga K "InvalidNumber") "__init__") E.fd_InvalidNumber ["self", "number"] (spI K (He.ga K "InvalidNumber") ["number"]) :=
  okI1 E.D_InvalidNumber sc_InvalidNumber rfl (fun cdv A outer s H EE => pss_one (ps_ost (pv 0) (pv 1)))
theorem bx_InvalidNumber (E : EV K mg) : Binds K E.fd_InvalidNumber ["self", "number"] [] := E.D_InvalidNumber.bindsN fun _ _ _ _ _ _ us hl => match us, hl with | [_, _], _ => rfl
theorem sc_InvalidRow : FnScope ["self", "place"] ["self", "place"] (defScope s_InvalidRow) := ⟨rfl, rfl, rfl, by decide +kernel, rfl, by decide +kernel, by decide +kernel⟩
theorem okx_InvalidRow (E : EV K mg) : FnOk P w K mg base (CX P w) 1 (He.ma K (He.ga K "InvalidRow") "__init__") E.fd_InvalidRow ["self", "place"] (spI K (He.ga K "InvalidRow") ["place"]) :=
  okI1 E.D_InvalidRow sc_InvalidRow rfl (fun cdv A outer s H EE => pss_one (ps_ost (pv 0) (pv 1)))
theorem bx_InvalidRow (E : EV K mg) : Binds K E.fd_InvalidRow ["self", "place"] [] := E.D_InvalidRow.bindsN fun _ _ _ _ _ _ us hl => match us, hl with | [_, _], _ => rfl
theorem sc__law_draws : FnScope ["script", "draws", "last", "cell", "rest", "k"] ["script"] (defScope s__law_draws) := ⟨rfl, rfl, rfl, by decide +kernel, rfl, by decide +kernel, by decide +kernel⟩
theorem b__law_draws (E : EV K mg) : Binds K E.fd__law_draws ["script"] [] := E.D__law_draws.bindsN fun _ _ _ _ _ _ us hl => match us, hl with | [_], _ => rfl
theorem ok__law_draws (E : EV K mg) : FnF P w K mg base 2 (He.ga K "_law_draws") E.fd__law_draws ["script"] F__law_draws := by
  have sc := sc__law_draws
  refine fnF_of (k := 1) E.D__law_draws sc__law_draws (fun Z hZ X cdv A outer s H EE hX hr => ?_)
  subst hX
  have tk : Takes _ (wE EE) := takes_of (X := cxOf (CX P w) P w K mg base ["script", "draws", "last", "cell", "rest", "k"] "_law_draws" (defScope s__law_draws) (He.ga K "_law_draws") cdv A outer s H EE) rfl rfl rfl rfl
  have hp := passes_of (X := cxOf (CX P w) P w K mg base ["script", "draws", "last", "cell", "rest", "k"] "_law_draws" (defScope s__law_draws) (He.ga K "_law_draws") cdv A outer s H EE) rfl
  exact (fscons (fset (i := 1) sc.nd rfl (Or.inl rfl) (flst fanil)) (fscons (fset (i := 2) sc.nd rfl (Or.inl rfl) fint) (fscons (fsfor hp rfl (fiseq (fslice (fv 0) fono (foint fint))) (fgname (i := 3) sc.nd rfl (Or.inl rfl)) (nxName 3) (fsone (fsif (tge (fv 3) (fpow fint fint)) (fscons (fset (i := 4) sc.nd rfl (Or.inl rfl) (fcint E.f_int (facons (fv 3) fanil))) (fsone (fsfor hp rfl (fir1 (by rfl) E.f_range (facons fint fanil)) (fgname (i := 5) sc.nd rfl (Or.inl rfl)) (nxName 5) (fsone (fsif (tgt (fv 4) fint) (fscons (fexpr (fmeth oAppend PySem.F.slot_list_append rfl mt_append (fv 1) (facons (fmod (fcint E.f_int (facons (fv 4) fanil)) fint) fanil))) (fsone (fset (i := 4) sc.nd rfl (Or.inl rfl) (ffdiv (fv 4) fint)))) fsnil))))) (fscons (fset (i := 2) sc.nd rfl (Or.inl rfl) (fmod (fcint E.f_int (facons (fadd (fadd (fadd (fmul (fv 3) (fv 3)) (fv 3)) (fmul (fv 2) fint)) fint) fanil)) fint)) (fscons (fset (i := 2) sc.nd rfl (Or.inl rfl) (fmod (fcint E.f_int (facons (fadd (fmul (fv 2) (fv 2)) fint) fanil)) fint)) (fsone (fexpr (fmeth oAppend PySem.F.slot_list_append rfl mt_append (fv 1) (facons (fv 2) fanil))))))))) (fscons (fsfor hp rfl (fir1 (by rfl) E.f_range (facons fint fanil)) (fgname (i := 5) sc.nd rfl (Or.inl rfl)) (nxName 5) (fscons (fset (i := 2) sc.nd rfl (Or.inl rfl) (fmod (fcint E.f_int (facons (fadd (fadd (fadd (fmul (fv 2) (fv 2)) (fmul fint (fv 5))) (flen E.f_len (facons (fv 1) fanil))) fint) fanil)) fint)) (fsone (fexpr (fmeth oAppend PySem.F.slot_list_append rfl mt_append (fv 1) (facons (fv 2) fanil)))))) (fsone (fret (fv 1)))))))
theorem sc__law_next : FnScope ["draws", "bound", "one"] ["draws", "bound"] (defScope s__law_next) := ⟨rfl, rfl, rfl, by decide +kernel, rfl, by decide +kernel, by decide +kernel⟩
theorem b__law_next (E : EV K mg) : Binds K E.fd__law_next ["draws", "bound"] [] := E.D__law_next.bindsN fun _ _ _ _ _ _ us hl => match us, hl with | [_, _], _ => rfl
theorem ok__law_next (E : EV K mg) : FnF P w K mg base 2 (He.ga K "_law_next") E.fd__law_next ["draws", "bound"] F__law_next := by
  have sc := sc__law_next
  refine fnF_of (k := 1) E.D__law_next sc__law_next (fun Z hZ X cdv A outer s H EE hX hr => ?_)
  subst hX
  have tk : Takes _ (wE EE) := takes_of (X := cxOf (CX P w) P w K mg base ["draws", "bound", "one"] "_law_next" (defScope s__law_next) (He.ga K "_law_next") cdv A outer s H EE) rfl rfl rfl rfl
  have hp := passes_of (X := cxOf (CX P w) P w K mg base ["draws", "bound", "one"] "_law_next" (defScope s__law_next) (He.ga K "_law_next") cdv A outer s H EE) rfl
  exact (fscons (fset (i := 2) sc.nd rfl (Or.inl rfl) (fmeth oPopAt PySem.F.slot_list_pop rfl mt_popAt (fv 0) (facons fint fanil))) (fscons (fexpr (fmeth oAppend PySem.F.slot_list_append rfl mt_append (fv 0) (facons (fmod (fcint E.f_int (facons (fadd (fadd (fmul (fv 2) (fv 2)) (fmul (fidx (fv 0) (fneg fint)) fint)) fint) fanil)) fint) fanil))) (fsone (fret (fmod (fcint E.f_int (facons (fv 2) fanil)) (fv 1))))))
theorem sc__law_prices : FnScope ["draws", "size", "kind", "price", "bound", "k"] ["draws"] (defScope s__law_prices) := ⟨rfl, rfl, rfl, by decide +kernel, rfl, by decide +kernel, by decide +kernel⟩
theorem b__law_prices (E : EV K mg) : Binds K E.fd__law_prices ["draws"] [] := E.D__law_prices.bindsN fun _ _ _ _ _ _ us hl => match us, hl with | [_], _ => rfl
theorem ok__law_prices (E : EV K mg) : FnF P w K mg base 3 (He.ga K "_law_prices") E.fd__law_prices ["draws"] F__law_prices := by
  have sc := sc__law_prices
  refine fnF_of (k := 2) E.D__law_prices sc__law_prices (fun Z hZ X cdv A outer s H EE hX hr => ?_)
  subst hX
  have tk : Takes _ (wE EE) := takes_of (X := cxOf (CX P w) P w K mg base ["draws", "size", "kind", "price", "bound", "k"] "_law_prices" (defScope s__law_prices) (He.ga K "_law_prices") cdv A outer s H EE) rfl rfl rfl rfl
  have hp := passes_of (X := cxOf (CX P w) P w K mg base ["draws", "size", "kind", "price", "bound", "k"] "_law_prices" (defScope s__law_prices) (He.ga K "_law_prices") cdv A outer s H EE) rfl
  exact (fscons (fset (i := 1) sc.nd rfl (Or.inl rfl) (fadd fint (fcall hZ (ok__law_next E) ar__law_next (hr.mono (by decide)) tk E.g__law_next E.D__law_next.kp (b__law_next E) (facons (fv 0) (facons fint fanil))))) (fscons (fsif (teq hr.units (fcall hZ (ok__law_next E) ar__law_next (hr.mono (by decide)) tk E.g__law_next E.D__law_next.kp (b__law_next E) (facons (fv 0) (facons fint fanil))) fint) (fsone (fset (i := 1) sc.nd rfl (Or.inl rfl) (fadd fint (fcall hZ (ok__law_next E) ar__law_next (hr.mono (by decide)) tk E.g__law_next E.D__law_next.kp (b__law_next E) (facons (fv 0) (facons fint fanil)))))) fsnil) (fscons (fset (i := 2) sc.nd rfl (Or.inl rfl) (fcall hZ (ok__law_next E) ar__law_next (hr.mono (by decide)) tk E.g__law_next E.D__law_next.kp (b__law_next E) (facons (fv 0) (facons fint fanil)))) (fscons (fsif (teq hr.units (fv 2) fint) (fscons (fset (i := 3) sc.nd rfl (Or.inr rfl) (fadd fint (fcall hZ (ok__law_next E) ar__law_next (hr.mono (by decide)) tk E.g__law_next E.D__law_next.kp (b__law_next E) (facons (fv 0) (facons fint fanil))))) (fsone (fret (fcomp hZ rfl sc.nd (fir1 (by rfl) E.f_range (facons (fv 1) fanil)) (blkOk_by (own := [(("k" : Str), 5)]) (by rfl)) (fun _ _ _ _ _ => (fwname (i := 5) sc.nd rfl (Or.inl rfl))) (fun _ _ _ _ _ => ftsnil) (fun _ _ _ _ _ => (fv 3)))))) fsnil) (fscons (fset (i := 4) sc.nd rfl (Or.inr rfl) (fidx (ftup (facons fint (facons fint (facons fint fanil)))) (fv 2))) (fsone (fret (fcomp hZ rfl sc.nd (fir1 (by rfl) E.f_range (facons (fv 1) fanil)) (blkOk_by (own := [(("k" : Str), 5)]) (by rfl)) (fun _ _ _ _ _ => (fwname (i := 5) sc.nd rfl (Or.inl rfl))) (fun _ _ _ _ _ => ftsnil) (fun _ _ _ _ _ => (fadd fint (fcall hZ (ok__law_next E) ar__law_next (hr.mono (by decide)) takesW0 E.g__law_next E.D__law_next.kp (b__law_next E) (facons (fv 0) (facons (fv 4) fanil)))))))))))))
theorem sc__law_heaps : FnScope ["prices", "heaps", "price"] ["prices"] (defScope s__law_heaps) := ⟨rfl, rfl, rfl, by decide +kernel, rfl, by decide +kernel, by decide +kernel⟩
theorem b__law_heaps (E : EV K mg) : Binds K E.fd__law_heaps ["prices"] [] := E.D__law_heaps.bindsN fun _ _ _ _ _ _ us hl => match us, hl with | [_], _ => rfl
theorem ok__law_heaps (E : EV K mg) : FnF P w K mg base 2 (He.ga K "_law_heaps") E.fd__law_heaps ["prices"] F__law_heaps := by
  have sc := sc__law_heaps
  refine fnF_of (k := 1) E.D__law_heaps sc__law_heaps (fun Z hZ X cdv A outer s H EE hX hr => ?_)
  subst hX
  have tk : Takes _ (wE EE) := takes_of (X := cxOf (CX P w) P w K mg base ["prices", "heaps", "price"] "_law_heaps" (defScope s__law_heaps) (He.ga K "_law_heaps") cdv A outer s H EE) rfl rfl rfl rfl
  have hp := passes_of (X := cxOf (CX P w) P w K mg base ["prices", "heaps", "price"] "_law_heaps" (defScope s__law_heaps) (He.ga K "_law_heaps") cdv A outer s H EE) rfl
  exact (fscons (fset (i := 1) sc.nd rfl (Or.inl rfl) (flst (facons fint fanil))) (fscons (fsfor hp rfl (fiseq (fv 0)) (fgname (i := 2) sc.nd rfl (Or.inl rfl)) (nxName 2) (fsone (fexpr (fmeth oAppend PySem.F.slot_list_append rfl mt_append (fv 1) (facons (fadd (fidx (fv 1) (fneg fint)) (fv 2)) fanil))))) (fsone (fret (fv 1)))))
theorem sc__law_rest : FnScope ["heaps", "size", "rest", "s", "row", "b", "tops", "p"] ["heaps"] (defScope s__law_rest) := ⟨rfl, rfl, rfl, by decide +kernel, rfl, by decide +kernel, by decide +kernel⟩
theorem b__law_rest (E : EV K mg) : Binds K E.fd__law_rest ["heaps"] [] := E.D__law_rest.bindsN fun _ _ _ _ _ _ us hl => match us, hl with | [_], _ => rfl
theorem ok__law_rest (E : EV K mg) : FnF P w K mg base 2 (He.ga K "_law_rest") E.fd__law_rest ["heaps"] F__law_rest := by
  have sc := sc__law_rest
  refine fnF_of (k := 1) E.D__law_rest sc__law_rest (fun Z hZ X cdv A outer s H EE hX hr => ?_)
  subst hX
  have tk : Takes _ (wE EE) := takes_of (X := cxOf (CX P w) P w K mg base ["heaps", "size", "rest", "s", "row", "b", "tops", "p"] "_law_rest" (defScope s__law_rest) (He.ga K "_law_rest") cdv A outer s H EE) rfl rfl rfl rfl
  have hp := passes_of (X := cxOf (CX P w) P w K mg base ["heaps", "size", "rest", "s", "row", "b", "tops", "p"] "_law_rest" (defScope s__law_rest) (He.ga K "_law_rest") cdv A outer s H EE) rfl
  exact (fscons (fset (i := 1) sc.nd rfl (Or.inr rfl) (fsub (flen E.f_len (facons (fv 0) fanil)) fint)) (fscons (fset (i := 2) sc.nd rfl (Or.inr rfl) (flst (facons (flst fanil) (facons (fcomp hZ rfl sc.nd (fir1 (by rfl) E.f_range (facons (fv 1) fanil)) (blkOk_by (own := [(("b" : Str), 5)]) (by rfl)) (fun _ _ _ _ _ => (fwname (i := 5) sc.nd rfl (Or.inl rfl))) (fun _ _ _ _ _ => ftsnil) (fun _ _ _ _ _ => (fsub (fidx (fv 0) (fv 1)) (fidx (fv 0) (fv 5))))) fanil)))) (fscons (fsfor hp rfl (fir2 (by rfl) E.f_range (facons fint (facons (fadd (fv 1) fint) fanil))) (fgname (i := 3) sc.nd rfl (Or.inr rfl)) (nxName 3) (fscons (fset (i := 4) sc.nd rfl (Or.inl rfl) (flst fanil)) (fscons (fsfor hp rfl (fir1 (by rfl) E.f_range (facons (fadd (fsub (fv 1) (fv 3)) fint) fanil)) (fgname (i := 5) sc.nd rfl (Or.inr rfl)) (nxName 5) (fscons (fsetcomp (i := 6) hZ rfl sc.nd rfl rfl rfl (fir2 (by rfl) E.f_range (facons (fadd (fv 5) fint) (facons (fadd (fsub (fv 1) (fv 3)) fint) fanil))) (blkOk_by (own := [(("p" : Str), 7)]) (by rfl)) (fun _ _ _ _ _ => (fwname (i := 7) sc.nd rfl (Or.inl rfl))) (fun _ _ _ _ _ => ftsnil) (fun _ _ _ _ _ => (fmax2 rfl E.f_max (facons (fsub (fidx (fv 0) (fv 7)) (fidx (fv 0) (fv 5))) (facons (fidx (fidx (fv 2) (fsub (fv 3) fint)) (fv 7)) fanil))))) (fsone (fexpr (fmeth oAppend PySem.F.slot_list_append rfl mt_append (fv 4) (facons (fmin rfl E.f_min (facons (fv 6) fanil)) fanil)))))) (fsone (fexpr (fmeth oAppend PySem.F.slot_list_append rfl mt_append (fv 2) (facons (fv 4) fanil))))))) (fsone (fret (fv 2))))))
theorem sc__law_first : FnScope ["heaps", "rest", "count", "top", "size", "cut", "at", "k", "left", "fits", "p"] ["heaps", "rest", "count"] (defScope s__law_first) := ⟨rfl, rfl, rfl, by decide +kernel, rfl, by decide +kernel, by decide +kernel⟩
theorem b__law_first (E : EV K mg) : Binds K E.fd__law_first ["heaps", "rest", "count"] [] := E.D__law_first.bindsN fun _ _ _ _ _ _ us hl => match us, hl with | [_, _, _], _ => rfl
theorem ok__law_first (E : EV K mg) : FnF P w K mg base 2 (He.ga K "_law_first") E.fd__law_first ["heaps", "rest", "count"] F__law_first := by
  have sc := sc__law_first
  refine fnF_of (k := 1) E.D__law_first sc__law_first (fun Z hZ X cdv A outer s H EE hX hr => ?_)
  subst hX
  have tk : Takes _ (wE EE) := takes_of (X := cxOf (CX P w) P w K mg base ["heaps", "rest", "count", "top", "size", "cut", "at", "k", "left", "fits", "p"] "_law_first" (defScope s__law_first) (He.ga K "_law_first") cdv A outer s H EE) rfl rfl rfl rfl
  have hp := passes_of (X := cxOf (CX P w) P w K mg base ["heaps", "rest", "count", "top", "size", "cut", "at", "k", "left", "fits", "p"] "_law_first" (defScope s__law_first) (He.ga K "_law_first") cdv A outer s H EE) rfl
  exact (fscons (fset (i := 3) sc.nd rfl (Or.inr rfl) (fidx (fidx (fv 1) (fv 2)) fint)) (fscons (fset (i := 4) sc.nd rfl (Or.inl rfl) (fsub (flen E.f_len (facons (fv 0) fanil)) fint)) (fscons (fset (i := 5) sc.nd rfl (Or.inl rfl) (flst fanil)) (fscons (fset (i := 6) sc.nd rfl (Or.inr rfl) fint) (fscons (fsfor hp rfl (fir1 (by rfl) E.f_range (facons (fsub (fv 2) fint) fanil)) (fgname (i := 7) sc.nd rfl (Or.inl rfl)) (nxName 7) (fscons (fset (i := 8) sc.nd rfl (Or.inr rfl) (fsub (fsub (fv 2) fint) (fv 7))) (fscons (fsetcomp (i := 9) hZ rfl sc.nd rfl rfl rfl (fir2 (by rfl) E.f_range (facons (fadd (fv 6) fint) (facons (fadd (fsub (fv 4) (fv 8)) fint) fanil))) (blkOk_by (own := [(("p" : Str), 10)]) (by rfl)) (fun _ _ _ _ _ => (fwname (i := 10) sc.nd rfl (Or.inl rfl))) (fun _ _ _ _ _ => (ftsone (tle (fmax2 rfl E.f_max (facons (fsub (fidx (fv 0) (fv 10)) (fidx (fv 0) (fv 6))) (facons (fidx (fidx (fv 1) (fv 8)) (fv 10)) fanil))) (fv 3)))) (fun _ _ _ _ _ => (fv 10))) (fscons (fset (i := 6) sc.nd rfl (Or.inr rfl) (fidx (fv 9) fint)) (fsone (fexpr (fmeth oAppend PySem.F.slot_list_append rfl mt_append (fv 5) (facons (fv 6) fanil)))))))) (fsone (fret (fctuple E.f_tuple (facons (fv 5) fanil)))))))))
theorem sc__law_begins : FnScope ["sums", "items", "rows", "ahead", "one", "row", "free", "i", "begin"] ["sums", "items"] (defScope s__law_begins) := ⟨rfl, rfl, rfl, by decide +kernel, rfl, by decide +kernel, by decide +kernel⟩
theorem b__law_begins (E : EV K mg) : Binds K E.fd__law_begins ["sums", "items"] [] := E.D__law_begins.bindsN fun _ _ _ _ _ _ us hl => match us, hl with | [_, _], _ => rfl
theorem ok__law_begins (E : EV K mg) : FnF P w K mg base 2 (He.ga K "_law_begins") E.fd__law_begins ["sums", "items"] F__law_begins := by
  have sc := sc__law_begins
  refine fnF_of (k := 1) E.D__law_begins sc__law_begins (fun Z hZ X cdv A outer s H EE hX hr => ?_)
  subst hX
  have tk : Takes _ (wE EE) := takes_of (X := cxOf (CX P w) P w K mg base ["sums", "items", "rows", "ahead", "one", "row", "free", "i", "begin"] "_law_begins" (defScope s__law_begins) (He.ga K "_law_begins") cdv A outer s H EE) rfl rfl rfl rfl
  have hp := passes_of (X := cxOf (CX P w) P w K mg base ["sums", "items", "rows", "ahead", "one", "row", "free", "i", "begin"] "_law_begins" (defScope s__law_begins) (He.ga K "_law_begins") cdv A outer s H EE) rfl
  exact (fscons (fset (i := 2) sc.nd rfl (Or.inl rfl) (flst fanil)) (fscons (fsetcomp (i := 3) hZ rfl sc.nd rfl rfl rfl (fir1 (by rfl) E.f_range (facons (fv 1) fanil)) (blkOk_by (own := [(("i" : Str), 7)]) (by rfl)) (fun _ _ _ _ _ => (fwname (i := 7) sc.nd rfl (Or.inl rfl))) (fun _ _ _ _ _ => ftsnil) (fun _ _ _ _ _ => fint)) (fscons (fsfor hp rfl (fiseq (fv 0)) (fgname (i := 4) sc.nd rfl (Or.inr rfl)) (nxName 4) (fscons (fset (i := 5) sc.nd rfl (Or.inl rfl) (flst fanil)) (fscons (fset (i := 6) sc.nd rfl (Or.inl rfl) fint) (fscons (fsfor hp rfl (fir1 (by rfl) E.f_range (facons (fv 1) fanil)) (fgname (i := 7) sc.nd rfl (Or.inl rfl)) (nxName 7) (fscons (fset (i := 8) sc.nd rfl (Or.inl rfl) (fmax2 rfl E.f_max (facons (fidx (fv 3) (fv 7)) (facons (fv 6) fanil)))) (fscons (fexpr (fmeth oAppend PySem.F.slot_list_append rfl mt_append (fv 5) (facons (fv 8) fanil))) (fsone (fset (i := 6) sc.nd rfl (Or.inl rfl) (fadd (fv 8) (fv 4))))))) (fscons (fexpr (fmeth oAppend PySem.F.slot_list_append rfl mt_append (fv 2) (facons (fctuple E.f_tuple (facons (fv 5) fanil)) fanil))) (fsone (fsetcomp (i := 3) hZ rfl sc.nd rfl rfl rfl (fiseq (fv 5)) (blkOk_by (own := [(("begin" : Str), 8)]) (by rfl)) (fun _ _ _ _ _ => (fwname (i := 8) sc.nd rfl (Or.inl rfl))) (fun _ _ _ _ _ => ftsnil) (fun _ _ _ _ _ => (fadd (fv 8) (fv 4)))))))))) (fsone (fret (fctuple E.f_tuple (facons (fv 2) fanil)))))))
theorem sc__law_paper : FnScope ["heaps", "count", "top", "paper", "begin", "k", "end", "p"] ["heaps", "count", "top"] (defScope s__law_paper) := ⟨rfl, rfl, rfl, by decide +kernel, rfl, by decide +kernel, by decide +kernel⟩
theorem b__law_paper (E : EV K mg) : Binds K E.fd__law_paper ["heaps", "count", "top"] [] := E.D__law_paper.bindsN fun _ _ _ _ _ _ us hl => match us, hl with | [_, _, _], _ => rfl
theorem ok__law_paper (E : EV K mg) : FnF P w K mg base 2 (He.ga K "_law_paper") E.fd__law_paper ["heaps", "count", "top"] F__law_paper := by
  have sc := sc__law_paper
  refine fnF_of (k := 1) E.D__law_paper sc__law_paper (fun Z hZ X cdv A outer s H EE hX hr => ?_)
  subst hX
  have tk : Takes _ (wE EE) := takes_of (X := cxOf (CX P w) P w K mg base ["heaps", "count", "top", "paper", "begin", "k", "end", "p"] "_law_paper" (defScope s__law_paper) (He.ga K "_law_paper") cdv A outer s H EE) rfl rfl rfl rfl
  have hp := passes_of (X := cxOf (CX P w) P w K mg base ["heaps", "count", "top", "paper", "begin", "k", "end", "p"] "_law_paper" (defScope s__law_paper) (He.ga K "_law_paper") cdv A outer s H EE) rfl
  exact (fscons (fset (i := 3) sc.nd rfl (Or.inl rfl) (flst fanil)) (fscons (fset (i := 4) sc.nd rfl (Or.inl rfl) fint) (fscons (fsfor hp rfl (fir1 (by rfl) E.f_range (facons (fv 1) fanil)) (fgname (i := 5) sc.nd rfl (Or.inl rfl)) (nxName 5) (fscons (fset (i := 6) sc.nd rfl (Or.inl rfl) (fadd (fv 4) fint)) (fscons (fsfor hp rfl (fir1 (by rfl) E.f_range (facons (flen E.f_len (facons (fv 0) fanil)) fanil)) (fgname (i := 7) sc.nd rfl (Or.inl rfl)) (nxName 7) (fsone (fsif (ft_w (fw_and (tlt (fv 6) (fsub (flen E.f_len (facons (fv 0) fanil)) fint)) (fw_and1 (tlt (fsub (fidx (fv 0) (fv 6)) (fidx (fv 0) (fv 4))) (fv 2))))) (fsone (fset (i := 6) sc.nd rfl (Or.inl rfl) (fadd (fv 6) fint))) fsnil))) (fscons (fexpr (fmeth oAppend PySem.F.slot_list_append rfl mt_append (fv 3) (facons (ftup (facons (fv 4) (facons (fv 6) fanil))) fanil))) (fsone (fset (i := 4) sc.nd rfl (Or.inl rfl) (fsub (fv 6) fint))))))) (fsone (fret (fctuple E.f_tuple (facons (fv 3) fanil)))))))
theorem sc_is_integer : FnScope ["value"] ["value"] (defScope s_is_integer) := ⟨rfl, rfl, rfl, by decide +kernel, rfl, by decide +kernel, by decide +kernel⟩
theorem b_is_integer (E : EV K mg) : Binds K E.fd_is_integer ["value"] [] := E.D_is_integer.bindsN fun _ _ _ _ _ _ us hl => match us, hl with | [_], _ => rfl
theorem ok_is_integer (E : EV K mg) : FnF P w K mg base 2 (He.ga K "is_integer") E.fd_is_integer ["value"] F_is_integer := by
  have sc := sc_is_integer
  refine fnF_of (k := 1) E.D_is_integer sc_is_integer (fun Z hZ X cdv A outer s H EE hX hr => ?_)
  subst hX
  have tk : Takes _ (wE EE) := takes_of (X := cxOf (CX P w) P w K mg base ["value"] "is_integer" (defScope s_is_integer) (He.ga K "is_integer") cdv A outer s H EE) rfl rfl rfl rfl
  have hp := passes_of (X := cxOf (CX P w) P w K mg base ["value"] "is_integer" (defScope s_is_integer) (He.ga K "is_integer") cdv A outer s H EE) rfl
  exact (fsone (fret (fand (fisInt E.f_isinstance E.f_int (fv 0)) (fone (fnot (fisBool E.f_isinstance E.f_bool (fv 0)))))))
theorem sc_is_from_to : FnScope ["value", "least", "most"] ["value", "least", "most"] (defScope s_is_from_to) := ⟨rfl, rfl, rfl, by decide +kernel, rfl, by decide +kernel, by decide +kernel⟩
theorem b_is_from_to (E : EV K mg) : Binds K E.fd_is_from_to ["value", "least", "most"] [] := E.D_is_from_to.bindsN fun _ _ _ _ _ _ us hl => match us, hl with | [_, _, _], _ => rfl
theorem ok_is_from_to (E : EV K mg) : FnF P w K mg base 3 (He.ga K "is_from_to") E.fd_is_from_to ["value", "least", "most"] F_is_from_to := by
  have sc := sc_is_from_to
  refine fnF_of (k := 2) E.D_is_from_to sc_is_from_to (fun Z hZ X cdv A outer s H EE hX hr => ?_)
  subst hX
  have tk : Takes _ (wE EE) := takes_of (X := cxOf (CX P w) P w K mg base ["value", "least", "most"] "is_from_to" (defScope s_is_from_to) (He.ga K "is_from_to") cdv A outer s H EE) rfl rfl rfl rfl
  have hp := passes_of (X := cxOf (CX P w) P w K mg base ["value", "least", "most"] "is_from_to" (defScope s_is_from_to) (He.ga K "is_from_to") cdv A outer s H EE) rfl
  exact (fsone (fret (fand (fcall hZ (ok_is_integer E) ar_is_integer (hr.mono (by decide)) tk E.g_is_integer E.D_is_integer.kp (b_is_integer E) (facons (fv 0) fanil)) (fone (fcleLe (fv 1) (fv 0) (fv 2))))))
theorem sc_checked_row : FnScope ["row", "most_members", "least", "most", "place", "number"] ["row", "most_members", "least", "most"] (defScope s_checked_row) := ⟨rfl, rfl, rfl, by decide +kernel, rfl, by decide +kernel, by decide +kernel⟩
theorem b_checked_row (E : EV K mg) : Binds K E.fd_checked_row ["row", "most_members", "least", "most"] [] := E.D_checked_row.bindsN fun _ _ _ _ _ _ us hl => match us, hl with | [_, _, _, _], _ => rfl
theorem ok_checked_row (E : EV K mg) : FnF P w K mg base 4 (He.ga K "checked_row") E.fd_checked_row ["row", "most_members", "least", "most"] F_checked_row := by
  have sc := sc_checked_row
  refine fnF_of (k := 3) E.D_checked_row sc_checked_row (fun Z hZ X cdv A outer s H EE hX hr => ?_)
  subst hX
  have tk : Takes _ (wE EE) := takes_of (X := cxOf (CX P w) P w K mg base ["row", "most_members", "least", "most", "place", "number"] "checked_row" (defScope s_checked_row) (He.ga K "checked_row") cdv A outer s H EE) rfl rfl rfl rfl
  have hp := passes_of (X := cxOf (CX P w) P w K mg base ["row", "most_members", "least", "most", "place", "number"] "checked_row" (defScope s_checked_row) (He.ga K "checked_row") cdv A outer s H EE) rfl
  exact (fscons (fsif (ft_w (fw_or (ft_not (ft_val (fisTL E.f_isinstance E.f_tuple E.f_list (fv 0)))) (fw_or1 (ft_not (tcleLe fint (flen E.f_len (facons (fv 0) fanil)) (fv 1)))))) (fsone (fraise E.x_InvalidRow (okx_InvalidRow E) (by decide) (bx_InvalidRow E) (hr.mono (by decide)) rfl tk (facons fint fanil))) fsnil) (fscons (fsfor hp rfl (fienum E.f_enumerate (facons (fv 0) fanil)) (fgtup rfl (fgcons (fgname (i := 4) sc.nd rfl (Or.inl rfl)) (fgcons (fgname (i := 5) sc.nd rfl (Or.inl rfl)) fgnil))) (nxTup (nxCons (nxName 4) (nxCons (nxName 5) nxNil))) (fsone (fsif (ft_not (ft_val (fcall hZ (ok_is_from_to E) ar_is_from_to (hr.mono (by decide)) tk E.g_is_from_to E.D_is_from_to.kp (b_is_from_to E) (facons (fv 5) (facons (fv 2) (facons (fv 3) fanil)))))) (fsone (fraise E.x_InvalidRow (okx_InvalidRow E) (by decide) (bx_InvalidRow E) (hr.mono (by decide)) rfl tk (facons (fv 4) fanil))) fsnil))) (fsone (fret (fctuple E.f_tuple (facons (fv 0) fanil))))))
theorem sc_checked_costs : FnScope ["costs"] ["costs"] (defScope s_checked_costs) := ⟨rfl, rfl, rfl, by decide +kernel, rfl, by decide +kernel, by decide +kernel⟩
theorem b_checked_costs (E : EV K mg) : Binds K E.fd_checked_costs ["costs"] [] := E.D_checked_costs.bindsN fun _ _ _ _ _ _ us hl => match us, hl with | [_], _ => rfl
theorem ok_checked_costs (E : EV K mg) : FnF P w K mg base 5 (He.ga K "checked_costs") E.fd_checked_costs ["costs"] F_checked_costs := by
  have sc := sc_checked_costs
  refine fnF_of (k := 4) E.D_checked_costs sc_checked_costs (fun Z hZ X cdv A outer s H EE hX hr => ?_)
  subst hX
  have tk : Takes _ (wE EE) := takes_of (X := cxOf (CX P w) P w K mg base ["costs"] "checked_costs" (defScope s_checked_costs) (He.ga K "checked_costs") cdv A outer s H EE) rfl rfl rfl rfl
  have hp := passes_of (X := cxOf (CX P w) P w K mg base ["costs"] "checked_costs" (defScope s_checked_costs) (He.ga K "checked_costs") cdv A outer s H EE) rfl
  exact (fsone (fret (fcall hZ (ok_checked_row E) ar_checked_row (hr.mono (by decide)) tk E.g_checked_row E.D_checked_row.kp (b_checked_row E) (facons (fv 0) (facons (fglobI rfl E.c_MOST_COSTS) (facons fint (facons (fglobI rfl E.c_MOST_COST) fanil)))))))
theorem sc_check_number : FnScope ["value", "least", "most"] ["value", "least", "most"] (defScope s_check_number) := ⟨rfl, rfl, rfl, by decide +kernel, rfl, by decide +kernel, by decide +kernel⟩
theorem b_check_number (E : EV K mg) : Binds K E.fd_check_number ["value", "least", "most"] [] := E.D_check_number.bindsN fun _ _ _ _ _ _ us hl => match us, hl with | [_, _, _], _ => rfl
theorem ok_check_number (E : EV K mg) : FnF P w K mg base 4 (He.ga K "check_number") E.fd_check_number ["value", "least", "most"] F_check_number := by
  have sc := sc_check_number
  refine fnF_of (k := 3) E.D_check_number sc_check_number (fun Z hZ X cdv A outer s H EE hX hr => ?_)
  subst hX
  have tk : Takes _ (wE EE) := takes_of (X := cxOf (CX P w) P w K mg base ["value", "least", "most"] "check_number" (defScope s_check_number) (He.ga K "check_number") cdv A outer s H EE) rfl rfl rfl rfl
  have hp := passes_of (X := cxOf (CX P w) P w K mg base ["value", "least", "most"] "check_number" (defScope s_check_number) (He.ga K "check_number") cdv A outer s H EE) rfl
  exact (fsone (fsif (ft_not (ft_val (fcall hZ (ok_is_from_to E) ar_is_from_to (hr.mono (by decide)) tk E.g_is_from_to E.D_is_from_to.kp (b_is_from_to E) (facons (fv 0) (facons (fv 1) (facons (fv 2) fanil)))))) (fsone (fraise E.x_InvalidNumber (okx_InvalidNumber E) (by decide) (bx_InvalidNumber E) (hr.mono (by decide)) rfl tk (facons (fv 0) fanil))) fsnil))
theorem sc_checked_cut : FnScope ["costs", "stages", "row"] ["costs", "stages"] (defScope s_checked_cut) := ⟨rfl, rfl, rfl, by decide +kernel, rfl, by decide +kernel, by decide +kernel⟩
theorem b_checked_cut (E : EV K mg) : Binds K E.fd_checked_cut ["costs", "stages"] [] := E.D_checked_cut.bindsN fun _ _ _ _ _ _ us hl => match us, hl with | [_, _], _ => rfl
theorem ok_checked_cut (E : EV K mg) : FnF P w K mg base 6 (He.ga K "checked_cut") E.fd_checked_cut ["costs", "stages"] F_checked_cut := by
  have sc := sc_checked_cut
  refine fnF_of (k := 5) E.D_checked_cut sc_checked_cut (fun Z hZ X cdv A outer s H EE hX hr => ?_)
  subst hX
  have tk : Takes _ (wE EE) := takes_of (X := cxOf (CX P w) P w K mg base ["costs", "stages", "row"] "checked_cut" (defScope s_checked_cut) (He.ga K "checked_cut") cdv A outer s H EE) rfl rfl rfl rfl
  have hp := passes_of (X := cxOf (CX P w) P w K mg base ["costs", "stages", "row"] "checked_cut" (defScope s_checked_cut) (He.ga K "checked_cut") cdv A outer s H EE) rfl
  exact (fscons (fset (i := 2) sc.nd rfl (Or.inl rfl) (fcall hZ (ok_checked_costs E) ar_checked_costs (hr.mono (by decide)) tk E.g_checked_costs E.D_checked_costs.kp (b_checked_costs E) (facons (fv 0) fanil))) (fscons (fexpr (fcall hZ (ok_check_number E) ar_check_number (hr.mono (by decide)) tk E.g_check_number E.D_check_number.kp (b_check_number E) (facons (fv 1) (facons fint (facons (flen E.f_len (facons (fv 2) fanil)) fanil))))) (fsone (fret (fv 2)))))
theorem sc_is_pair_of : FnScope ["row", "value", "top", "begin", "end"] ["row", "value", "top"] (defScope s_is_pair_of) := ⟨rfl, rfl, rfl, by decide +kernel, rfl, by decide +kernel, by decide +kernel⟩
theorem b_is_pair_of (E : EV K mg) : Binds K E.fd_is_pair_of ["row", "value", "top"] [] := E.D_is_pair_of.bindsN fun _ _ _ _ _ _ us hl => match us, hl with | [_, _, _], _ => rfl
theorem ok_is_pair_of (E : EV K mg) : FnF P w K mg base 4 (He.ga K "is_pair_of") E.fd_is_pair_of ["row", "value", "top"] F_is_pair_of := by
  have sc := sc_is_pair_of
  refine fnF_of (k := 3) E.D_is_pair_of sc_is_pair_of (fun Z hZ X cdv A outer s H EE hX hr => ?_)
  subst hX
  have tk : Takes _ (wE EE) := takes_of (X := cxOf (CX P w) P w K mg base ["row", "value", "top", "begin", "end"] "is_pair_of" (defScope s_is_pair_of) (He.ga K "is_pair_of") cdv A outer s H EE) rfl rfl rfl rfl
  have hp := passes_of (X := cxOf (CX P w) P w K mg base ["row", "value", "top", "begin", "end"] "is_pair_of" (defScope s_is_pair_of) (He.ga K "is_pair_of") cdv A outer s H EE) rfl
  exact (fscons (fsif (ft_w (fw_or (ft_not (ft_val (fisTuple E.f_isinstance E.f_tuple (fv 1)))) (fw_or1 (tne hr.units (flen E.f_len (facons (fv 1) fanil)) fint)))) (fsone (fret fbl)) fsnil) (fscons (fasg (fv 1) (fgtup rfl (fgcons (fgname (i := 3) sc.nd rfl (Or.inl rfl)) (fgcons (fgname (i := 4) sc.nd rfl (Or.inl rfl)) fgnil))) (nxTup (nxCons (nxName 3) (nxCons (nxName 4) nxNil)))) (fscons (fsif (ft_w (fw_or (ft_not (ft_val (fcall hZ (ok_is_from_to E) ar_is_from_to (hr.mono (by decide)) tk E.g_is_from_to E.D_is_from_to.kp (b_is_from_to E) (facons (fv 3) (facons fint (facons (fsub (flen E.f_len (facons (fv 0) fanil)) fint) fanil)))))) (fw_or1 (ft_not (ft_val (fcall hZ (ok_is_integer E) ar_is_integer (hr.mono (by decide)) tk E.g_is_integer E.D_is_integer.kp (b_is_integer E) (facons (fv 4) fanil))))))) (fsone (fret fbl)) fsnil) (fscons (fsif (ft_not (tcltLe (fv 3) (fv 4) (flen E.f_len (facons (fv 0) fanil)))) (fsone (fret fbl)) fsnil) (fsone (fret (fge (fsum rfl E.f_sum (facons (fslice (fv 0) (foint (fv 3)) (foint (fv 4))) fanil)) (fv 2))))))))
theorem sc_top_paper_holds : FnScope ["costs", "stages", "top", "value", "row", "ahead", "pair"] ["costs", "stages", "top", "value"] (defScope s_top_paper_holds) := ⟨rfl, rfl, rfl, by decide +kernel, rfl, by decide +kernel, by decide +kernel⟩
theorem b_top_paper_holds (E : EV K mg) : Binds K E.fd_top_paper_holds ["costs", "stages", "top", "value"] [] := E.D_top_paper_holds.bindsN fun _ _ _ _ _ _ us hl => match us, hl with | [_, _, _, _], _ => rfl
theorem ok_top_paper_holds (E : EV K mg) : FnF P w K mg base 7 (He.ga K "top_paper_holds") E.fd_top_paper_holds ["costs", "stages", "top", "value"] F_top_paper_holds := by
  have sc := sc_top_paper_holds
  refine fnF_of (k := 6) E.D_top_paper_holds sc_top_paper_holds (fun Z hZ X cdv A outer s H EE hX hr => ?_)
  subst hX
  have tk : Takes _ (wE EE) := takes_of (X := cxOf (CX P w) P w K mg base ["costs", "stages", "top", "value", "row", "ahead", "pair"] "top_paper_holds" (defScope s_top_paper_holds) (He.ga K "top_paper_holds") cdv A outer s H EE) rfl rfl rfl rfl
  have hp := passes_of (X := cxOf (CX P w) P w K mg base ["costs", "stages", "top", "value", "row", "ahead", "pair"] "top_paper_holds" (defScope s_top_paper_holds) (He.ga K "top_paper_holds") cdv A outer s H EE) rfl
  exact (fscons (fset (i := 4) sc.nd rfl (Or.inl rfl) (fcall hZ (ok_checked_cut E) ar_checked_cut (hr.mono (by decide)) tk E.g_checked_cut E.D_checked_cut.kp (b_checked_cut E) (facons (fv 0) (facons (fv 1) fanil)))) (fscons (fsif (ft_w (fw_or (ft_not (ft_val (fisTuple E.f_isinstance E.f_tuple (fv 3)))) (fw_or1 (tne hr.units (flen E.f_len (facons (fv 3) fanil)) (fv 1))))) (fsone (fret fbl)) fsnil) (fscons (fset (i := 5) sc.nd rfl (Or.inl rfl) fint) (fscons (fsfor hp rfl (fiseq (fv 3)) (fgname (i := 6) sc.nd rfl (Or.inl rfl)) (nxName 6) (fscons (fsif (ft_not (ft_val (fcall hZ (ok_is_pair_of E) ar_is_pair_of (hr.mono (by decide)) tk E.g_is_pair_of E.D_is_pair_of.kp (b_is_pair_of E) (facons (fv 4) (facons (fv 6) (facons (fv 2) fanil)))))) (fsone (fret fbl)) fsnil) (fscons (fsif (tlt (fidx (fv 6) fint) (fsub (fv 5) fint)) (fsone (fret fbl)) fsnil) (fsone (fset (i := 5) sc.nd rfl (Or.inl rfl) (fidx (fv 6) fint)))))) (fsone (fret fbl))))))
theorem sc__law_same : FnScope ["told", "due", "k"] ["told", "due"] (defScope s__law_same) := ⟨rfl, rfl, rfl, by decide +kernel, rfl, by decide +kernel, by decide +kernel⟩
theorem b__law_same (E : EV K mg) : Binds K E.fd__law_same ["told", "due"] [] := E.D__law_same.bindsN fun _ _ _ _ _ _ us hl => match us, hl with | [_, _], _ => rfl
theorem ok__law_same (E : EV K mg) : ∀ d, FnF P w K mg base (2 + d) (He.ga K "_law_same") E.fd__law_same ["told", "due"] (F__law_same d)
  | 0 => fnF_bad
  | d + 1 => by
    have ih := ok__law_same E d
    have hrec := ar__law_same d
    generalize hq : F__law_same d = rec at ih hrec
    have sc := sc__law_same
    show FnF P w K mg base (2 + d + 1) _ _ _ (defF 2 3 (g__law_same (F__law_same d)))
    rw [hq]
    refine fnF_of E.D__law_same sc__law_same (fun Z hZ X cdv A outer s H EE hX hr => ?_)
    subst hX
    have tk : Takes _ (wE EE) := takes_of (X := cxOf (CX P w) P w K mg base ["told", "due", "k"] "_law_same" (defScope s__law_same) (He.ga K "_law_same") cdv A outer s H EE) rfl rfl rfl rfl
    have hp := passes_of (X := cxOf (CX P w) P w K mg base ["told", "due", "k"] "_law_same" (defScope s__law_same) (He.ga K "_law_same") cdv A outer s H EE) rfl
    exact (fscons (fsif (ft_val (fisTuple E.f_isinstance E.f_tuple (fv 1))) (fscons (fsif (ft_w (fw_or (ft_not (ft_val (fisTuple E.f_isinstance E.f_tuple (fv 0)))) (fw_or1 (tne hr.units (flen E.f_len (facons (fv 0) fanil)) (flen E.f_len (facons (fv 1) fanil)))))) (fsone (fret fbl)) fsnil) (fscons (fsfor hp rfl (fir1 (by rfl) E.f_range (facons (flen E.f_len (facons (fv 1) fanil)) fanil)) (fgname (i := 2) sc.nd rfl (Or.inl rfl)) (nxName 2) (fsone (fsif (ft_not (ft_val (fcall hZ ih hrec (hr.mono (by omega)) tk E.g__law_same E.D__law_same.kp (b__law_same E) (facons (fidx (fv 0) (fv 2)) (facons (fidx (fv 1) (fv 2)) fanil))))) (fsone (fret fbl)) fsnil))) (fsone (fret fbl)))) fsnil) (fscons (fsif (tisN (fv 1) fnon) (fsone (fret (fisN (fv 0) fnon))) fsnil) (fscons (fsif (ft_val (fisBool E.f_isinstance E.f_bool (fv 1))) (fsone (fret (fand (fisBool E.f_isinstance E.f_bool (fv 0)) (fone (feq hr.units (fv 0) (fv 1)))))) fsnil) (fscons (fsif (ft_val (fisInt E.f_isinstance E.f_int (fv 1))) (fsone (fret (fand (fisInt E.f_isinstance E.f_int (fv 0)) (fand (fnot (fisBool E.f_isinstance E.f_bool (fv 0))) (fone (feq hr.units (fv 0) (fv 1))))))) fsnil) (fsone (fret (fand (fisStr E.f_isinstance E.f_str (fv 0)) (fone (feq hr.units (fv 0) (fv 1))))))))))
theorem sc_stages_needed : FnScope ["row", "top", "many", "left", "cost"] ["row", "top"] (defScope s_stages_needed) := ⟨rfl, rfl, rfl, by decide +kernel, rfl, by decide +kernel, by decide +kernel⟩
theorem b_stages_needed (E : EV K mg) : Binds K E.fd_stages_needed ["row", "top"] [] := E.D_stages_needed.bindsN fun _ _ _ _ _ _ us hl => match us, hl with | [_, _], _ => rfl
theorem ok_stages_needed (E : EV K mg) : FnF P w K mg base 2 (He.ga K "stages_needed") E.fd_stages_needed ["row", "top"] F_stages_needed := by
  have sc := sc_stages_needed
  refine fnF_of (k := 1) E.D_stages_needed sc_stages_needed (fun Z hZ X cdv A outer s H EE hX hr => ?_)
  subst hX
  have tk : Takes _ (wE EE) := takes_of (X := cxOf (CX P w) P w K mg base ["row", "top", "many", "left", "cost"] "stages_needed" (defScope s_stages_needed) (He.ga K "stages_needed") cdv A outer s H EE) rfl rfl rfl rfl
  have hp := passes_of (X := cxOf (CX P w) P w K mg base ["row", "top", "many", "left", "cost"] "stages_needed" (defScope s_stages_needed) (He.ga K "stages_needed") cdv A outer s H EE) rfl
  exact (fscons (fset (i := 2) sc.nd rfl (Or.inl rfl) fint) (fscons (fset (i := 3) sc.nd rfl (Or.inl rfl) fint) (fscons (fsfor hp rfl (fiseq (fv 0)) (fgname (i := 4) sc.nd rfl (Or.inl rfl)) (nxName 4) (fscons (fsif (ft_w (fw_or (teq hr.units (fv 2) fint) (fw_or1 (tgt (fv 4) (fv 3))))) (fscons (fsaugAdd (n := 2) sc.nd rfl (Or.inl rfl) fint) (fsone (fset (i := 3) sc.nd rfl (Or.inl rfl) (fv 1)))) fsnil) (fsone (fsaugSub (n := 3) sc.nd rfl (Or.inl rfl) (fv 4))))) (fsone (fret (fv 2))))))
theorem sc_top_needed : FnScope ["row", "stages", "low", "high", "middle"] ["row", "stages"] (defScope s_top_needed) := ⟨rfl, rfl, rfl, by decide +kernel, rfl, by decide +kernel, by decide +kernel⟩
theorem b_top_needed (E : EV K mg) : Binds K E.fd_top_needed ["row", "stages"] [] := E.D_top_needed.bindsN fun _ _ _ _ _ _ us hl => match us, hl with | [_, _], _ => rfl
theorem ok_top_needed (E : EV K mg) : FnF P w K mg base 3 (He.ga K "top_needed") E.fd_top_needed ["row", "stages"] F_top_needed := by
  have sc := sc_top_needed
  refine fnF_of (k := 2) E.D_top_needed sc_top_needed (fun Z hZ X cdv A outer s H EE hX hr => ?_)
  subst hX
  have tk : Takes _ (wE EE) := takes_of (X := cxOf (CX P w) P w K mg base ["row", "stages", "low", "high", "middle"] "top_needed" (defScope s_top_needed) (He.ga K "top_needed") cdv A outer s H EE) rfl rfl rfl rfl
  have hp := passes_of (X := cxOf (CX P w) P w K mg base ["row", "stages", "low", "high", "middle"] "top_needed" (defScope s_top_needed) (He.ga K "top_needed") cdv A outer s H EE) rfl
  exact (fscons (fset (i := 2) sc.nd rfl (Or.inl rfl) (fmax rfl E.f_max (facons (fv 0) fanil))) (fscons (fset (i := 3) sc.nd rfl (Or.inl rfl) (fsum rfl E.f_sum (facons (fv 0) fanil))) (fscons (fswhile bigN hp (tlt (fv 2) (fv 3)) (fscons (fset (i := 4) sc.nd rfl (Or.inl rfl) (ffdiv (fadd (fv 2) (fv 3)) fint)) (fsone (fsif (tle (fcall hZ (ok_stages_needed E) ar_stages_needed (hr.mono (by decide)) tk E.g_stages_needed E.D_stages_needed.kp (b_stages_needed E) (facons (fv 0) (facons (fv 4) fanil))) (fv 1)) (fsone (fset (i := 3) sc.nd rfl (Or.inl rfl) (fv 4))) (fsone (fset (i := 2) sc.nd rfl (Or.inl rfl) (fadd (fv 4) fint))))))) (fsone (fret (fv 2))))))
theorem sc_can_be_cut : FnScope ["row", "stages", "top"] ["row", "stages", "top"] (defScope s_can_be_cut) := ⟨rfl, rfl, rfl, by decide +kernel, rfl, by decide +kernel, by decide +kernel⟩
theorem b_can_be_cut (E : EV K mg) : Binds K E.fd_can_be_cut ["row", "stages", "top"] [] := E.D_can_be_cut.bindsN fun _ _ _ _ _ _ us hl => match us, hl with | [_, _, _], _ => rfl
theorem ok_can_be_cut (E : EV K mg) : FnF P w K mg base 3 (He.ga K "can_be_cut") E.fd_can_be_cut ["row", "stages", "top"] F_can_be_cut := by
  have sc := sc_can_be_cut
  refine fnF_of (k := 2) E.D_can_be_cut sc_can_be_cut (fun Z hZ X cdv A outer s H EE hX hr => ?_)
  subst hX
  have tk : Takes _ (wE EE) := takes_of (X := cxOf (CX P w) P w K mg base ["row", "stages", "top"] "can_be_cut" (defScope s_can_be_cut) (He.ga K "can_be_cut") cdv A outer s H EE) rfl rfl rfl rfl
  have hp := passes_of (X := cxOf (CX P w) P w K mg base ["row", "stages", "top"] "can_be_cut" (defScope s_can_be_cut) (He.ga K "can_be_cut") cdv A outer s H EE) rfl
  exact (fscons (fsif (teq hr.units (fv 1) fint) (fsone (fret (feq hr.units (flen E.f_len (facons (fv 0) fanil)) fint))) fsnil) (fsone (fret (fand (fle (fv 1) (flen E.f_len (facons (fv 0) fanil))) (fone (fle (fcall hZ (ok_stages_needed E) ar_stages_needed (hr.mono (by decide)) tk E.g_stages_needed E.D_stages_needed.kp (b_stages_needed E) (facons (fv 0) (facons (fv 2) fanil))) (fv 1)))))))
theorem sc_best_cut : FnScope ["costs", "stages", "row", "top", "found", "begin", "later", "end"] ["costs", "stages"] (defScope s_best_cut) := ⟨rfl, rfl, rfl, by decide +kernel, rfl, by decide +kernel, by decide +kernel⟩
theorem b_best_cut (E : EV K mg) : Binds K E.fd_best_cut ["costs", "stages"] [] := E.D_best_cut.bindsN fun _ _ _ _ _ _ us hl => match us, hl with | [_, _], _ => rfl
theorem ok_best_cut (E : EV K mg) : FnF P w K mg base 7 (He.ga K "best_cut") E.fd_best_cut ["costs", "stages"] F_best_cut := by
  have sc := sc_best_cut
  refine fnF_of (k := 6) E.D_best_cut sc_best_cut (fun Z hZ X cdv A outer s H EE hX hr => ?_)
  subst hX
  have tk : Takes _ (wE EE) := takes_of (X := cxOf (CX P w) P w K mg base ["costs", "stages", "row", "top", "found", "begin", "later", "end"] "best_cut" (defScope s_best_cut) (He.ga K "best_cut") cdv A outer s H EE) rfl rfl rfl rfl
  have hp := passes_of (X := cxOf (CX P w) P w K mg base ["costs", "stages", "row", "top", "found", "begin", "later", "end"] "best_cut" (defScope s_best_cut) (He.ga K "best_cut") cdv A outer s H EE) rfl
  exact (fscons (fset (i := 2) sc.nd rfl (Or.inl rfl) (fcall hZ (ok_checked_cut E) ar_checked_cut (hr.mono (by decide)) tk E.g_checked_cut E.D_checked_cut.kp (b_checked_cut E) (facons (fv 0) (facons (fv 1) fanil)))) (fscons (fset (i := 3) sc.nd rfl (Or.inl rfl) (fcall hZ (ok_top_needed E) ar_top_needed (hr.mono (by decide)) tk E.g_top_needed E.D_top_needed.kp (b_top_needed E) (facons (fv 2) (facons (fv 1) fanil)))) (fscons (fset (i := 4) sc.nd rfl (Or.inl rfl) (flst fanil)) (fscons (fset (i := 5) sc.nd rfl (Or.inl rfl) fint) (fscons (fsfor hp rfl (firev2 E.f_reversed E.f_range fint (fv 1)) (fgname (i := 6) sc.nd rfl (Or.inl rfl)) (nxName 6) (fscons (fset (i := 7) sc.nd rfl (Or.inl rfl) (fadd (fv 5) fint)) (fscons (fswhile bigN hp (ft_not (ft_val (fcall hZ (ok_can_be_cut E) ar_can_be_cut (hr.mono (by decide)) tk E.g_can_be_cut E.D_can_be_cut.kp (b_can_be_cut E) (facons (fslice (fv 2) (foint (fv 7)) fono) (facons (fv 6) (facons (fv 3) fanil)))))) (fsone (fsaugAdd (n := 7) sc.nd rfl (Or.inl rfl) fint))) (fscons (fexpr (fmeth oAppend PySem.F.slot_list_append rfl mt_append (fv 4) (facons (fv 7) fanil))) (fsone (fset (i := 5) sc.nd rfl (Or.inl rfl) (fv 7))))))) (fsone (fret (fctuple E.f_tuple (facons (fv 4) fanil)))))))))
theorem sc_least_top : FnScope ["costs", "stages", "row"] ["costs", "stages"] (defScope s_least_top) := ⟨rfl, rfl, rfl, by decide +kernel, rfl, by decide +kernel, by decide +kernel⟩
theorem b_least_top (E : EV K mg) : Binds K E.fd_least_top ["costs", "stages"] [] := E.D_least_top.bindsN fun _ _ _ _ _ _ us hl => match us, hl with | [_, _], _ => rfl
theorem ok_least_top (E : EV K mg) : FnF P w K mg base 7 (He.ga K "least_top") E.fd_least_top ["costs", "stages"] F_least_top := by
  have sc := sc_least_top
  refine fnF_of (k := 6) E.D_least_top sc_least_top (fun Z hZ X cdv A outer s H EE hX hr => ?_)
  subst hX
  have tk : Takes _ (wE EE) := takes_of (X := cxOf (CX P w) P w K mg base ["costs", "stages", "row"] "least_top" (defScope s_least_top) (He.ga K "least_top") cdv A outer s H EE) rfl rfl rfl rfl
  have hp := passes_of (X := cxOf (CX P w) P w K mg base ["costs", "stages", "row"] "least_top" (defScope s_least_top) (He.ga K "least_top") cdv A outer s H EE) rfl
  exact (fscons (fset (i := 2) sc.nd rfl (Or.inl rfl) (fcall hZ (ok_checked_cut E) ar_checked_cut (hr.mono (by decide)) tk E.g_checked_cut E.D_checked_cut.kp (b_checked_cut E) (facons (fv 0) (facons (fv 1) fanil)))) (fsone (fret (fcall hZ (ok_top_needed E) ar_top_needed (hr.mono (by decide)) tk E.g_top_needed E.D_top_needed.kp (b_top_needed E) (facons (fv 2) (facons (fv 1) fanil))))))
theorem sc_fewest_stages : FnScope ["costs", "top", "row"] ["costs", "top"] (defScope s_fewest_stages) := ⟨rfl, rfl, rfl, by decide +kernel, rfl, by decide +kernel, by decide +kernel⟩
theorem b_fewest_stages (E : EV K mg) : Binds K E.fd_fewest_stages ["costs", "top"] [] := E.D_fewest_stages.bindsN fun _ _ _ _ _ _ us hl => match us, hl with | [_, _], _ => rfl
theorem ok_fewest_stages (E : EV K mg) : FnF P w K mg base 6 (He.ga K "fewest_stages") E.fd_fewest_stages ["costs", "top"] F_fewest_stages := by
  have sc := sc_fewest_stages
  refine fnF_of (k := 5) E.D_fewest_stages sc_fewest_stages (fun Z hZ X cdv A outer s H EE hX hr => ?_)
  subst hX
  have tk : Takes _ (wE EE) := takes_of (X := cxOf (CX P w) P w K mg base ["costs", "top", "row"] "fewest_stages" (defScope s_fewest_stages) (He.ga K "fewest_stages") cdv A outer s H EE) rfl rfl rfl rfl
  have hp := passes_of (X := cxOf (CX P w) P w K mg base ["costs", "top", "row"] "fewest_stages" (defScope s_fewest_stages) (He.ga K "fewest_stages") cdv A outer s H EE) rfl
  exact (fscons (fset (i := 2) sc.nd rfl (Or.inl rfl) (fcall hZ (ok_checked_costs E) ar_checked_costs (hr.mono (by decide)) tk E.g_checked_costs E.D_checked_costs.kp (b_checked_costs E) (facons (fv 0) fanil))) (fscons (fexpr (fcall hZ (ok_check_number E) ar_check_number (hr.mono (by decide)) tk E.g_check_number E.D_check_number.kp (b_check_number E) (facons (fv 1) (facons (fmax rfl E.f_max (facons (fv 2) fanil)) (facons (fglobI rfl E.c_MOST_TOP) fanil))))) (fsone (fret (fcall hZ (ok_stages_needed E) ar_stages_needed (hr.mono (by decide)) tk E.g_stages_needed E.D_stages_needed.kp (b_stages_needed E) (facons (fv 2) (facons (fv 1) fanil)))))))
theorem sc_shortest_from : FnScope ["row", "begin", "least", "end", "total"] ["row", "begin", "least"] (defScope s_shortest_from) := ⟨rfl, rfl, rfl, by decide +kernel, rfl, by decide +kernel, by decide +kernel⟩
theorem b_shortest_from (E : EV K mg) : Binds K E.fd_shortest_from ["row", "begin", "least"] [] := E.D_shortest_from.bindsN fun _ _ _ _ _ _ us hl => match us, hl with | [_, _, _], _ => rfl
theorem ok_shortest_from (E : EV K mg) : FnF P w K mg base 2 (He.ga K "shortest_from") E.fd_shortest_from ["row", "begin", "least"] F_shortest_from := by
  have sc := sc_shortest_from
  refine fnF_of (k := 1) E.D_shortest_from sc_shortest_from (fun Z hZ X cdv A outer s H EE hX hr => ?_)
  subst hX
  have tk : Takes _ (wE EE) := takes_of (X := cxOf (CX P w) P w K mg base ["row", "begin", "least", "end", "total"] "shortest_from" (defScope s_shortest_from) (He.ga K "shortest_from") cdv A outer s H EE) rfl rfl rfl rfl
  have hp := passes_of (X := cxOf (CX P w) P w K mg base ["row", "begin", "least", "end", "total"] "shortest_from" (defScope s_shortest_from) (He.ga K "shortest_from") cdv A outer s H EE) rfl
  exact (fscons (fset (i := 3) sc.nd rfl (Or.inl rfl) (fv 1)) (fscons (fset (i := 4) sc.nd rfl (Or.inl rfl) fint) (fscons (fswhile bigN hp (tlt (fv 4) (fv 2)) (fscons (fsaugAdd (n := 4) sc.nd rfl (Or.inl rfl) (fidx (fv 0) (fv 3))) (fsone (fsaugAdd (n := 3) sc.nd rfl (Or.inl rfl) fint)))) (fsone (fret (fv 3))))))
theorem sc_top_paper : FnScope ["costs", "stages", "row", "top", "found", "begin", "_", "end"] ["costs", "stages"] (defScope s_top_paper) := ⟨rfl, rfl, rfl, by decide +kernel, rfl, by decide +kernel, by decide +kernel⟩
theorem b_top_paper (E : EV K mg) : Binds K E.fd_top_paper ["costs", "stages"] [] := E.D_top_paper.bindsN fun _ _ _ _ _ _ us hl => match us, hl with | [_, _], _ => rfl
theorem ok_top_paper (E : EV K mg) : FnF P w K mg base 7 (He.ga K "top_paper") E.fd_top_paper ["costs", "stages"] F_top_paper := by
  have sc := sc_top_paper
  refine fnF_of (k := 6) E.D_top_paper sc_top_paper (fun Z hZ X cdv A outer s H EE hX hr => ?_)
  subst hX
  have tk : Takes _ (wE EE) := takes_of (X := cxOf (CX P w) P w K mg base ["costs", "stages", "row", "top", "found", "begin", "_", "end"] "top_paper" (defScope s_top_paper) (He.ga K "top_paper") cdv A outer s H EE) rfl rfl rfl rfl
  have hp := passes_of (X := cxOf (CX P w) P w K mg base ["costs", "stages", "row", "top", "found", "begin", "_", "end"] "top_paper" (defScope s_top_paper) (He.ga K "top_paper") cdv A outer s H EE) rfl
  exact (fscons (fset (i := 2) sc.nd rfl (Or.inl rfl) (fcall hZ (ok_checked_cut E) ar_checked_cut (hr.mono (by decide)) tk E.g_checked_cut E.D_checked_cut.kp (b_checked_cut E) (facons (fv 0) (facons (fv 1) fanil)))) (fscons (fset (i := 3) sc.nd rfl (Or.inl rfl) (fcall hZ (ok_top_needed E) ar_top_needed (hr.mono (by decide)) tk E.g_top_needed E.D_top_needed.kp (b_top_needed E) (facons (fv 2) (facons (fv 1) fanil)))) (fscons (fset (i := 4) sc.nd rfl (Or.inl rfl) (flst fanil)) (fscons (fset (i := 5) sc.nd rfl (Or.inl rfl) fint) (fscons (fsfor hp rfl (fir1 (by rfl) E.f_range (facons (fv 1) fanil)) (fgname (i := 6) sc.nd rfl (Or.inl rfl)) (nxName 6) (fscons (fset (i := 7) sc.nd rfl (Or.inl rfl) (fcall hZ (ok_shortest_from E) ar_shortest_from (hr.mono (by decide)) tk E.g_shortest_from E.D_shortest_from.kp (b_shortest_from E) (facons (fv 2) (facons (fv 5) (facons (fv 3) fanil))))) (fscons (fexpr (fmeth oAppend PySem.F.slot_list_append rfl mt_append (fv 4) (facons (ftup (facons (fv 5) (facons (fv 7) fanil))) fanil))) (fsone (fset (i := 5) sc.nd rfl (Or.inl rfl) (fsub (fv 7) fint)))))) (fsone (fret (fctuple E.f_tuple (facons (fv 4) fanil)))))))))
theorem sc__law_cut_right : FnScope ["prices", "heaps", "rest", "count", "top", "cut", "own", "bound", "fewest", "paper", "s"] ["prices", "heaps", "rest", "count"] (defScope s__law_cut_right) := ⟨rfl, rfl, rfl, by decide +kernel, rfl, by decide +kernel, by decide +kernel⟩
theorem b__law_cut_right (E : EV K mg) : Binds K E.fd__law_cut_right ["prices", "heaps", "rest", "count"] [] := E.D__law_cut_right.bindsN fun _ _ _ _ _ _ us hl => match us, hl with | [_, _, _, _], _ => rfl
theorem ok__law_cut_right (E : EV K mg) : FnF P w K mg base 43 (He.ga K "_law_cut_right") E.fd__law_cut_right ["prices", "heaps", "rest", "count"] F__law_cut_right := by
  have sc := sc__law_cut_right
  refine fnF_of (k := 42) E.D__law_cut_right sc__law_cut_right (fun Z hZ X cdv A outer s H EE hX hr => ?_)
  subst hX
  have tk : Takes _ (wE EE) := takes_of (X := cxOf (CX P w) P w K mg base ["prices", "heaps", "rest", "count", "top", "cut", "own", "bound", "fewest", "paper", "s"] "_law_cut_right" (defScope s__law_cut_right) (He.ga K "_law_cut_right") cdv A outer s H EE) rfl rfl rfl rfl
  have hp := passes_of (X := cxOf (CX P w) P w K mg base ["prices", "heaps", "rest", "count", "top", "cut", "own", "bound", "fewest", "paper", "s"] "_law_cut_right" (defScope s__law_cut_right) (He.ga K "_law_cut_right") cdv A outer s H EE) rfl
  exact (fscons (fset (i := 4) sc.nd rfl (Or.inl rfl) (fidx (fidx (fv 2) (fv 3)) fint)) (fscons (fset (i := 5) sc.nd rfl (Or.inl rfl) (fcall hZ (ok__law_first E) ar__law_first (hr.mono (by decide)) tk E.g__law_first E.D__law_first.kp (b__law_first E) (facons (fv 1) (facons (fv 2) (facons (fv 3) fanil))))) (fscons (fset (i := 6) sc.nd rfl (Or.inl rfl) (fclist E.f_list (facons (fv 0) fanil))) (fscons (fsif (ft_w (fw_or (ft_not (ft_val (fcall hZ (ok__law_same E 40) (ar__law_same 40) (hr.mono (by decide)) tk E.g__law_same E.D__law_same.kp (b__law_same E) (facons (fcall hZ (ok_best_cut E) ar_best_cut (hr.mono (by decide)) tk E.g_best_cut E.D_best_cut.kp (b_best_cut E) (facons (fv 6) (facons (fv 3) fanil))) (facons (fv 5) fanil))))) (fw_or1 (ft_not (ft_val (fcall hZ (ok__law_same E 40) (ar__law_same 40) (hr.mono (by decide)) tk E.g__law_same E.D__law_same.kp (b__law_same E) (facons (fcallK0 hZ (ok_best_cut E) ar_best_cut (hr.mono (by decide)) tk E.g_best_cut E.D_best_cut.kp (kbinds_of (ks := ["stages", "costs"]) E.D_best_cut 0 2 [1, 0] (by decide) (fun _ _ _ _ _ _ us ws h1 h2 => match us, ws, h1, h2 with | [], [_, _], _, _ => rfl)) (fkcons (fv 3) (fkcons (fctuple E.f_tuple (facons (fv 0) fanil)) fknil))) (facons (fv 5) fanil)))))))) (fsone (fret fbl)) fsnil) (fscons (fsif (ft_w (fw_or (ft_not (ft_val (fcall hZ (ok__law_same E 40) (ar__law_same 40) (hr.mono (by decide)) tk E.g__law_same E.D__law_same.kp (b__law_same E) (facons (fcall hZ (ok_least_top E) ar_least_top (hr.mono (by decide)) tk E.g_least_top E.D_least_top.kp (b_least_top E) (facons (fv 6) (facons (fv 3) fanil))) (facons (fv 4) fanil))))) (fw_or1 (tne hr.units (fv 6) (fv 0))))) (fsone (fret fbl)) fsnil) (fscons (fsfor hp rfl (fiseq (ftup (facons (fv 4) (facons fint (facons (fmax rfl E.f_max (facons (fv 0) fanil)) fanil))))) (fgname (i := 7) sc.nd rfl (Or.inr rfl)) (nxName 7) (fscons (fset (i := 8) sc.nd rfl (Or.inl rfl) (fidx (fcomp hZ rfl sc.nd (fir2 (by rfl) E.f_range (facons fint (facons (flen E.f_len (facons (fv 1) fanil)) fanil))) (blkOk_by (own := [(("s" : Str), 10)]) (by rfl)) (fun _ _ _ _ _ => (fwname (i := 10) sc.nd rfl (Or.inl rfl))) (fun _ _ _ _ _ => (ftsone (tle (fidx (fidx (fv 2) (fv 10)) fint) (fv 7)))) (fun _ _ _ _ _ => (fv 10))) fint)) (fsone (fsif (ft_not (ft_val (fcall hZ (ok__law_same E 40) (ar__law_same 40) (hr.mono (by decide)) tk E.g__law_same E.D__law_same.kp (b__law_same E) (facons (fcall hZ (ok_fewest_stages E) ar_fewest_stages (hr.mono (by decide)) tk E.g_fewest_stages E.D_fewest_stages.kp (b_fewest_stages E) (facons (fv 6) (facons (fv 7) fanil))) (facons (fv 8) fanil))))) (fsone (fret fbl)) fsnil)))) (fscons (fset (i := 9) sc.nd rfl (Or.inl rfl) (fcall hZ (ok__law_paper E) ar__law_paper (hr.mono (by decide)) tk E.g__law_paper E.D__law_paper.kp (b__law_paper E) (facons (fv 1) (facons (fv 3) (facons (fv 4) fanil))))) (fscons (fsif (ft_w (fw_or (ft_not (ft_val (fcall hZ (ok__law_same E 40) (ar__law_same 40) (hr.mono (by decide)) tk E.g__law_same E.D__law_same.kp (b__law_same E) (facons (fcall hZ (ok_top_paper E) ar_top_paper (hr.mono (by decide)) tk E.g_top_paper E.D_top_paper.kp (b_top_paper E) (facons (fv 6) (facons (fv 3) fanil))) (facons (fv 9) fanil))))) (fw_or1 (tne hr.units (fv 6) (fv 0))))) (fsone (fret fbl)) fsnil) (fscons (fsif (tnotB (fcall hZ (ok_top_paper_holds E) ar_top_paper_holds (hr.mono (by decide)) tk E.g_top_paper_holds E.D_top_paper_holds.kp (b_top_paper_holds E) (facons (fv 6) (facons (fv 3) (facons (fv 4) (facons (fv 9) fanil))))) fbl) (fsone (fret fbl)) fsnil) (fsone (fret (fisB (fcallK0 hZ (ok_top_paper_holds E) ar_top_paper_holds (hr.mono (by decide)) tk E.g_top_paper_holds E.D_top_paper_holds.kp (kbinds_of (ks := ["costs", "stages", "top", "value"]) E.D_top_paper_holds 0 4 [0, 1, 2, 3] (by decide) (fun _ _ _ _ _ _ us ws h1 h2 => match us, ws, h1, h2 with | [], [_, _, _, _], _, _ => rfl)) (fkcons (fv 6) (fkcons (fv 3) (fkcons (fadd (fv 4) fint) (fkcons (fv 9) fknil))))) fbl))))))))))))
theorem sc__law_sums : FnScope ["heaps", "cut", "sums", "at", "place"] ["heaps", "cut"] (defScope s__law_sums) := ⟨rfl, rfl, rfl, by decide +kernel, rfl, by decide +kernel, by decide +kernel⟩
theorem b__law_sums (E : EV K mg) : Binds K E.fd__law_sums ["heaps", "cut"] [] := E.D__law_sums.bindsN fun _ _ _ _ _ _ us hl => match us, hl with | [_, _], _ => rfl
theorem ok__law_sums (E : EV K mg) : FnF P w K mg base 2 (He.ga K "_law_sums") E.fd__law_sums ["heaps", "cut"] F__law_sums := by
  have sc := sc__law_sums
  refine fnF_of (k := 1) E.D__law_sums sc__law_sums (fun Z hZ X cdv A outer s H EE hX hr => ?_)
  subst hX
  have tk : Takes _ (wE EE) := takes_of (X := cxOf (CX P w) P w K mg base ["heaps", "cut", "sums", "at", "place"] "_law_sums" (defScope s__law_sums) (He.ga K "_law_sums") cdv A outer s H EE) rfl rfl rfl rfl
  have hp := passes_of (X := cxOf (CX P w) P w K mg base ["heaps", "cut", "sums", "at", "place"] "_law_sums" (defScope s__law_sums) (He.ga K "_law_sums") cdv A outer s H EE) rfl
  exact (fscons (fset (i := 2) sc.nd rfl (Or.inl rfl) (flst fanil)) (fscons (fset (i := 3) sc.nd rfl (Or.inl rfl) fint) (fscons (fsfor hp rfl (fiseq (fadd (fclist E.f_list (facons (fv 1) fanil)) (flst (facons (fsub (flen E.f_len (facons (fv 0) fanil)) fint) fanil)))) (fgname (i := 4) sc.nd rfl (Or.inl rfl)) (nxName 4) (fscons (fexpr (fmeth oAppend PySem.F.slot_list_append rfl mt_append (fv 2) (facons (fsub (fidx (fv 0) (fv 4)) (fidx (fv 0) (fv 3))) fanil))) (fsone (fset (i := 3) sc.nd rfl (Or.inl rfl) (fv 4))))) (fsone (fret (fv 2))))))
theorem sc__law_drawn : FnScope ["draws", "size", "count", "places", "k"] ["draws", "size", "count"] (defScope s__law_drawn) := ⟨rfl, rfl, rfl, by decide +kernel, rfl, by decide +kernel, by decide +kernel⟩
theorem b__law_drawn (E : EV K mg) : Binds K E.fd__law_drawn ["draws", "size", "count"] [] := E.D__law_drawn.bindsN fun _ _ _ _ _ _ us hl => match us, hl with | [_, _, _], _ => rfl
theorem ok__law_drawn (E : EV K mg) : FnF P w K mg base 3 (He.ga K "_law_drawn") E.fd__law_drawn ["draws", "size", "count"] F__law_drawn := by
  have sc := sc__law_drawn
  refine fnF_of (k := 2) E.D__law_drawn sc__law_drawn (fun Z hZ X cdv A outer s H EE hX hr => ?_)
  subst hX
  have tk : Takes _ (wE EE) := takes_of (X := cxOf (CX P w) P w K mg base ["draws", "size", "count", "places", "k"] "_law_drawn" (defScope s__law_drawn) (He.ga K "_law_drawn") cdv A outer s H EE) rfl rfl rfl rfl
  have hp := passes_of (X := cxOf (CX P w) P w K mg base ["draws", "size", "count", "places", "k"] "_law_drawn" (defScope s__law_drawn) (He.ga K "_law_drawn") cdv A outer s H EE) rfl
  exact (fscons (fset (i := 3) sc.nd rfl (Or.inl rfl) (flistRg2 rfl E.f_list E.f_range fint (fv 1))) (fscons (fsfor hp rfl (fir1 (by rfl) E.f_range (facons (fsub (fv 1) (fv 2)) fanil)) (fgname (i := 4) sc.nd rfl (Or.inl rfl)) (nxName 4) (fsone (fexpr (fmeth oPopAt PySem.F.slot_list_pop rfl mt_popAt (fv 3) (facons (fcall hZ (ok__law_next E) ar__law_next (hr.mono (by decide)) tk E.g__law_next E.D__law_next.kp (b__law_next E) (facons (fv 0) (facons (flen E.f_len (facons (fv 3) fanil)) fanil))) fanil))))) (fsone (fret (fctuple E.f_tuple (facons (fv 3) fanil))))))
theorem sc__law_every : FnScope ["size", "count", "cuts", "k", "longer", "cut", "at", "place"] ["size", "count"] (defScope s__law_every) := ⟨rfl, rfl, rfl, by decide +kernel, rfl, by decide +kernel, by decide +kernel⟩
theorem b__law_every (E : EV K mg) : Binds K E.fd__law_every ["size", "count"] [] := E.D__law_every.bindsN fun _ _ _ _ _ _ us hl => match us, hl with | [_, _], _ => rfl
theorem ok__law_every (E : EV K mg) : FnF P w K mg base 2 (He.ga K "_law_every") E.fd__law_every ["size", "count"] F__law_every := by
  have sc := sc__law_every
  refine fnF_of (k := 1) E.D__law_every sc__law_every (fun Z hZ X cdv A outer s H EE hX hr => ?_)
  subst hX
  have tk : Takes _ (wE EE) := takes_of (X := cxOf (CX P w) P w K mg base ["size", "count", "cuts", "k", "longer", "cut", "at", "place"] "_law_every" (defScope s__law_every) (He.ga K "_law_every") cdv A outer s H EE) rfl rfl rfl rfl
  have hp := passes_of (X := cxOf (CX P w) P w K mg base ["size", "count", "cuts", "k", "longer", "cut", "at", "place"] "_law_every" (defScope s__law_every) (He.ga K "_law_every") cdv A outer s H EE) rfl
  exact (fscons (fset (i := 2) sc.nd rfl (Or.inl rfl) (flst (facons (ftup fanil) fanil))) (fscons (fsfor hp rfl (fir1 (by rfl) E.f_range (facons (fsub (fv 1) fint) fanil)) (fgname (i := 3) sc.nd rfl (Or.inl rfl)) (nxName 3) (fscons (fset (i := 4) sc.nd rfl (Or.inl rfl) (flst fanil)) (fscons (fsfor hp rfl (fiseq (fv 2)) (fgname (i := 5) sc.nd rfl (Or.inl rfl)) (nxName 5) (fscons (fset (i := 6) sc.nd rfl (Or.inl rfl) fint) (fscons (fsif (tgt (fv 3) fint) (fsone (fset (i := 6) sc.nd rfl (Or.inl rfl) (fidx (fv 5) (fneg fint)))) fsnil) (fsone (fsfor hp rfl (fir2 (by rfl) E.f_range (facons (fadd (fv 6) fint) (facons (fsub (fv 0) (fsub (fsub (fv 1) fint) (fv 3))) fanil))) (fgname (i := 7) sc.nd rfl (Or.inl rfl)) (nxName 7) (fsone (fexpr (fmeth oAppend PySem.F.slot_list_append rfl mt_append (fv 4) (facons (fadd (fv 5) (ftup (facons (fv 7) fanil))) fanil))))))))) (fsone (fset (i := 2) sc.nd rfl (Or.inl rfl) (fv 4)))))) (fsone (fret (fv 2)))))
theorem sc__law_holds : FnScope ["sums", "items", "value", "s", "i"] ["sums", "items", "value"] (defScope s__law_holds) := ⟨rfl, rfl, rfl, by decide +kernel, rfl, by decide +kernel, by decide +kernel⟩
theorem b__law_holds (E : EV K mg) : Binds K E.fd__law_holds ["sums", "items", "value"] [] := E.D__law_holds.bindsN fun _ _ _ _ _ _ us hl => match us, hl with | [_, _, _], _ => rfl
theorem ok__law_holds (E : EV K mg) : FnF P w K mg base 2 (He.ga K "_law_holds") E.fd__law_holds ["sums", "items", "value"] F__law_holds := by
  have sc := sc__law_holds
  refine fnF_of (k := 1) E.D__law_holds sc__law_holds (fun Z hZ X cdv A outer s H EE hX hr => ?_)
  subst hX
  have tk : Takes _ (wE EE) := takes_of (X := cxOf (CX P w) P w K mg base ["sums", "items", "value", "s", "i"] "_law_holds" (defScope s__law_holds) (He.ga K "_law_holds") cdv A outer s H EE) rfl rfl rfl rfl
  have hp := passes_of (X := cxOf (CX P w) P w K mg base ["sums", "items", "value", "s", "i"] "_law_holds" (defScope s__law_holds) (He.ga K "_law_holds") cdv A outer s H EE) rfl
  exact (fscons (fsif (tne hr.units (flen E.f_len (facons (fv 2) fanil)) (flen E.f_len (facons (fv 0) fanil))) (fsone (fret fbl)) fsnil) (fscons (fsfor hp rfl (fir1 (by rfl) E.f_range (facons (flen E.f_len (facons (fv 0) fanil)) fanil)) (fgname (i := 3) sc.nd rfl (Or.inl rfl)) (nxName 3) (fsone (fsfor hp rfl (fir1 (by rfl) E.f_range (facons (fv 1) fanil)) (fgname (i := 4) sc.nd rfl (Or.inl rfl)) (nxName 4) (fscons (fsif (ft_w (fw_or (tlt (fidx (fidx (fv 2) (fv 3)) (fv 4)) fint) (fw_or1 (ft_w (fw_and (tgt (fv 4) fint) (fw_and1 (tlt (fidx (fidx (fv 2) (fv 3)) (fv 4)) (fadd (fidx (fidx (fv 2) (fv 3)) (fsub (fv 4) fint)) (fidx (fv 0) (fv 3)))))))))) (fsone (fret fbl)) fsnil) (fsone (fsif (ft_w (fw_and (tgt (fv 3) fint) (fw_and1 (tlt (fidx (fidx (fv 2) (fv 3)) (fv 4)) (fadd (fidx (fidx (fv 2) (fsub (fv 3) fint)) (fv 4)) (fidx (fv 0) (fsub (fv 3) fint))))))) (fsone (fret fbl)) fsnil)))))) (fsone (fret fbl))))
theorem sc__law_late : FnScope ["sums", "items", "room", "free", "rows", "ends", "i", "at", "s", "begin", "row", "one"] ["sums", "items", "room"] (defScope s__law_late) := ⟨rfl, rfl, rfl, by decide +kernel, rfl, by decide +kernel, by decide +kernel⟩
theorem b__law_late (E : EV K mg) : Binds K E.fd__law_late ["sums", "items", "room"] [] := E.D__law_late.bindsN fun _ _ _ _ _ _ us hl => match us, hl with | [_, _, _], _ => rfl
theorem ok__law_late (E : EV K mg) : FnF P w K mg base 2 (He.ga K "_law_late") E.fd__law_late ["sums", "items", "room"] F__law_late := by
  have sc := sc__law_late
  refine fnF_of (k := 1) E.D__law_late sc__law_late (fun Z hZ X cdv A outer s H EE hX hr => ?_)
  subst hX
  have tk : Takes _ (wE EE) := takes_of (X := cxOf (CX P w) P w K mg base ["sums", "items", "room", "free", "rows", "ends", "i", "at", "s", "begin", "row", "one"] "_law_late" (defScope s__law_late) (He.ga K "_law_late") cdv A outer s H EE) rfl rfl rfl rfl
  have hp := passes_of (X := cxOf (CX P w) P w K mg base ["sums", "items", "room", "free", "rows", "ends", "i", "at", "s", "begin", "row", "one"] "_law_late" (defScope s__law_late) (He.ga K "_law_late") cdv A outer s H EE) rfl
  exact (fscons (fsetcomp (i := 3) hZ rfl sc.nd rfl rfl rfl (fiseq (fv 0)) (blkOk_by (own := [(("one" : Str), 11)]) (by rfl)) (fun _ _ _ _ _ => (fwname (i := 11) sc.nd rfl (Or.inl rfl))) (fun _ _ _ _ _ => ftsnil) (fun _ _ _ _ _ => fint)) (fscons (fsetcomp (i := 4) hZ rfl sc.nd rfl rfl rfl (fiseq (fv 0)) (blkOk_by (own := [(("one" : Str), 11)]) (by rfl)) (fun _ _ _ _ _ => (fwname (i := 11) sc.nd rfl (Or.inl rfl))) (fun _ _ _ _ _ => ftsnil) (fun _ _ _ _ _ => (flst fanil))) (fscons (fset (i := 5) sc.nd rfl (Or.inl rfl) (flst fanil)) (fscons (fsfor hp rfl (fir1 (by rfl) E.f_range (facons (fv 1) fanil)) (fgname (i := 6) sc.nd rfl (Or.inl rfl)) (nxName 6) (fscons (fset (i := 7) sc.nd rfl (Or.inl rfl) fint) (fscons (fsif (tge (fv 6) (fv 2)) (fsone (fset (i := 7) sc.nd rfl (Or.inl rfl) (fidx (fv 5) (fsub (fv 6) (fv 2))))) fsnil) (fscons (fsfor hp rfl (fir1 (by rfl) E.f_range (facons (flen E.f_len (facons (fv 0) fanil)) fanil)) (fgname (i := 8) sc.nd rfl (Or.inl rfl)) (nxName 8) (fscons (fset (i := 9) sc.nd rfl (Or.inl rfl) (fmax2 rfl E.f_max (facons (fv 7) (facons (fidx (fv 3) (fv 8)) fanil)))) (fscons (fset (i := 10) sc.nd rfl (Or.inl rfl) (fidx (fv 4) (fv 8))) (fscons (fexpr (fmeth oAppend PySem.F.slot_list_append rfl mt_append (fv 10) (facons (fv 9) fanil))) (fscons (fset (i := 7) sc.nd rfl (Or.inl rfl) (fadd (fv 9) (fidx (fv 0) (fv 8)))) (fsone (fasg (fv 7) (fgsub (W := W0) (fv 3) (fv 8)) nxSub))))))) (fsone (fexpr (fmeth oAppend PySem.F.slot_list_append rfl mt_append (fv 5) (facons (fv 7) fanil)))))))) (fsone (fret (ftup (facons (fctuple E.f_tuple (facons (fcomp hZ rfl sc.nd (fiseq (fv 4)) (blkOk_by (own := [(("row" : Str), 10)]) (by rfl)) (fun _ _ _ _ _ => (fwname (i := 10) sc.nd rfl (Or.inl rfl))) (fun _ _ _ _ _ => ftsnil) (fun _ _ _ _ _ => (fctuple E.f_tuple (facons (fv 10) fanil)))) fanil)) (facons (fidx (fv 5) (fneg fint)) fanil)))))))))
theorem sc__law_due : FnScope ["which", "sums", "items", "more", "above", "k"] ["which", "sums", "items", "more"] (defScope s__law_due) := ⟨rfl, rfl, rfl, by decide +kernel, rfl, by decide +kernel, by decide +kernel⟩
theorem b__law_due (E : EV K mg) : Binds K E.fd__law_due ["which", "sums", "items", "more"] [] := E.D__law_due.bindsN fun _ _ _ _ _ _ us hl => match us, hl with | [_, _, _, _], _ => rfl
theorem ok__law_due (E : EV K mg) : FnF P w K mg base 3 (He.ga K "_law_due") E.fd__law_due ["which", "sums", "items", "more"] F__law_due := by
  have sc := sc__law_due
  refine fnF_of (k := 2) E.D__law_due sc__law_due (fun Z hZ X cdv A outer s H EE hX hr => ?_)
  subst hX
  have tk : Takes _ (wE EE) := takes_of (X := cxOf (CX P w) P w K mg base ["which", "sums", "items", "more", "above", "k"] "_law_due" (defScope s__law_due) (He.ga K "_law_due") cdv A outer s H EE) rfl rfl rfl rfl
  have hp := passes_of (X := cxOf (CX P w) P w K mg base ["which", "sums", "items", "more", "above", "k"] "_law_due" (defScope s__law_due) (He.ga K "_law_due") cdv A outer s H EE) rfl
  exact (fscons (fsetcomp (i := 4) hZ rfl sc.nd rfl rfl rfl (fir1 (by rfl) E.f_range (facons (flen E.f_len (facons (fv 1) fanil)) fanil)) (blkOk_by (own := [(("k" : Str), 5)]) (by rfl)) (fun _ _ _ _ _ => (fwname (i := 5) sc.nd rfl (Or.inl rfl))) (fun _ _ _ _ _ => (ftsone (tgt (fidx (fv 1) (fv 5)) fint))) (fun _ _ _ _ _ => (fv 5))) (fscons (fsif (tgt (flen E.f_len (facons (fv 4) fanil)) fint) (fsone (fret (ftup (facons fstr (facons (fidx (fv 4) fint) fanil))))) fsnil) (fscons (fsif (teq hr.units (fv 0) fint) (fsone (fret (ftup (facons fstr (facons (fcall hZ (ok__law_begins E) ar__law_begins (hr.mono (by decide)) tk E.g__law_begins E.D__law_begins.kp (b__law_begins E) (facons (fv 1) (facons (fv 2) fanil))) fanil))))) fsnil) (fscons (fsif (teq hr.units (fv 0) fint) (fsone (fret (ftup (facons fstr (facons (fcall hZ (ok__law_holds E) ar__law_holds (hr.mono (by decide)) tk E.g__law_holds E.D__law_holds.kp (b__law_holds E) (facons (fv 1) (facons (fv 2) (facons (fv 3) fanil)))) fanil))))) fsnil) (fscons (fsif (teq hr.units (fv 0) fint) (fsone (fret (ftup (facons fstr (facons (fidx (fcall hZ (ok__law_late E) ar__law_late (hr.mono (by decide)) tk E.g__law_late E.D__law_late.kp (b__law_late E) (facons (fv 1) (facons (fv 2) (facons (fv 3) fanil)))) fint) fanil))))) fsnil) (fscons (fsif (teq hr.units (fv 0) fint) (fsone (fret (ftup (facons fstr (facons (fidx (fcall hZ (ok__law_late E) ar__law_late (hr.mono (by decide)) tk E.g__law_late E.D__law_late.kp (b__law_late E) (facons (fv 1) (facons (fv 2) (facons (fv 3) fanil)))) fint) fanil))))) fsnil) (fsone (fret (ftup (facons fstr (facons (fadd (fidx (fidx (fcall hZ (ok__law_begins E) ar__law_begins (hr.mono (by decide)) tk E.g__law_begins E.D__law_begins.kp (b__law_begins E) (facons (fv 1) (facons (fv 2) fanil))) (fneg fint)) (fneg fint)) (fidx (fv 1) (fneg fint))) fanil)))))))))))
theorem sc_checked_times : FnScope ["times", "many", "row"] ["times", "many"] (defScope s_checked_times) := ⟨rfl, rfl, rfl, by decide +kernel, rfl, by decide +kernel, by decide +kernel⟩
theorem b_checked_times (E : EV K mg) : Binds K E.fd_checked_times ["times", "many"] [] := E.D_checked_times.bindsN fun _ _ _ _ _ _ us hl => match us, hl with | [_, _], _ => rfl
theorem ok_checked_times (E : EV K mg) : FnF P w K mg base 5 (He.ga K "checked_times") E.fd_checked_times ["times", "many"] F_checked_times := by
  have sc := sc_checked_times
  refine fnF_of (k := 4) E.D_checked_times sc_checked_times (fun Z hZ X cdv A outer s H EE hX hr => ?_)
  subst hX
  have tk : Takes _ (wE EE) := takes_of (X := cxOf (CX P w) P w K mg base ["times", "many", "row"] "checked_times" (defScope s_checked_times) (He.ga K "checked_times") cdv A outer s H EE) rfl rfl rfl rfl
  have hp := passes_of (X := cxOf (CX P w) P w K mg base ["times", "many", "row"] "checked_times" (defScope s_checked_times) (He.ga K "checked_times") cdv A outer s H EE) rfl
  exact (fscons (fset (i := 2) sc.nd rfl (Or.inl rfl) (fcall hZ (ok_checked_row E) ar_checked_row (hr.mono (by decide)) tk E.g_checked_row E.D_checked_row.kp (b_checked_row E) (facons (fv 0) (facons (fglobI rfl E.c_MOST_STAGES) (facons fint (facons (fglobI rfl E.c_MOST_TICKS) fanil)))))) (fscons (fexpr (fcall hZ (ok_check_number E) ar_check_number (hr.mono (by decide)) tk E.g_check_number E.D_check_number.kp (b_check_number E) (facons (fv 1) (facons fint (facons (fglobI rfl E.c_MOST_ITEMS) fanil))))) (fsone (fret (fv 2)))))
theorem sc_pipe_ticks : FnScope ["times", "many", "row"] ["times", "many"] (defScope s_pipe_ticks) := ⟨rfl, rfl, rfl, by decide +kernel, rfl, by decide +kernel, by decide +kernel⟩
theorem b_pipe_ticks (E : EV K mg) : Binds K E.fd_pipe_ticks ["times", "many"] [] := E.D_pipe_ticks.bindsN fun _ _ _ _ _ _ us hl => match us, hl with | [_, _], _ => rfl
theorem ok_pipe_ticks (E : EV K mg) : FnF P w K mg base 6 (He.ga K "pipe_ticks") E.fd_pipe_ticks ["times", "many"] F_pipe_ticks := by
  have sc := sc_pipe_ticks
  refine fnF_of (k := 5) E.D_pipe_ticks sc_pipe_ticks (fun Z hZ X cdv A outer s H EE hX hr => ?_)
  subst hX
  have tk : Takes _ (wE EE) := takes_of (X := cxOf (CX P w) P w K mg base ["times", "many", "row"] "pipe_ticks" (defScope s_pipe_ticks) (He.ga K "pipe_ticks") cdv A outer s H EE) rfl rfl rfl rfl
  have hp := passes_of (X := cxOf (CX P w) P w K mg base ["times", "many", "row"] "pipe_ticks" (defScope s_pipe_ticks) (He.ga K "pipe_ticks") cdv A outer s H EE) rfl
  exact (fscons (fset (i := 2) sc.nd rfl (Or.inl rfl) (fcall hZ (ok_checked_times E) ar_checked_times (hr.mono (by decide)) tk E.g_checked_times E.D_checked_times.kp (b_checked_times E) (facons (fv 0) (facons (fv 1) fanil)))) (fsone (fret (fadd (fsum rfl E.f_sum (facons (fv 2) fanil)) (fmul (fsub (fv 1) fint) (fmax rfl E.f_max (facons (fv 2) fanil)))))))
theorem sc_begins_within : FnScope ["row", "many", "most", "found", "item", "ready", "stage", "ticks", "_"] ["row", "many", "most"] (defScope s_begins_within) := ⟨rfl, rfl, rfl, by decide +kernel, rfl, by decide +kernel, by decide +kernel⟩
theorem b_begins_within (E : EV K mg) : Binds K E.fd_begins_within ["row", "many", "most"] [] := E.D_begins_within.bindsN fun _ _ _ _ _ _ us hl => match us, hl with | [_, _, _], _ => rfl
theorem ok_begins_within (E : EV K mg) : FnF P w K mg base 2 (He.ga K "begins_within") E.fd_begins_within ["row", "many", "most"] F_begins_within := by
  have sc := sc_begins_within
  refine fnF_of (k := 1) E.D_begins_within sc_begins_within (fun Z hZ X cdv A outer s H EE hX hr => ?_)
  subst hX
  have tk : Takes _ (wE EE) := takes_of (X := cxOf (CX P w) P w K mg base ["row", "many", "most", "found", "item", "ready", "stage", "ticks", "_"] "begins_within" (defScope s_begins_within) (He.ga K "begins_within") cdv A outer s H EE) rfl rfl rfl rfl
  have hp := passes_of (X := cxOf (CX P w) P w K mg base ["row", "many", "most", "found", "item", "ready", "stage", "ticks", "_"] "begins_within" (defScope s_begins_within) (He.ga K "begins_within") cdv A outer s H EE) rfl
  exact (fscons (fsetcomp (i := 3) hZ rfl sc.nd rfl rfl rfl (fiseq (fv 0)) (blkOk_by (own := [(("_" : Str), 8)]) (by rfl)) (fun _ _ _ _ _ => (fwname (i := 8) sc.nd rfl (Or.inl rfl))) (fun _ _ _ _ _ => ftsnil) (fun _ _ _ _ _ => (flst fanil))) (fscons (fsfor hp rfl (fir1 (by rfl) E.f_range (facons (fv 1) fanil)) (fgname (i := 4) sc.nd rfl (Or.inl rfl)) (nxName 4) (fscons (fset (i := 5) sc.nd rfl (Or.inl rfl) fint) (fscons (fsif (tge (fv 4) (fv 2)) (fsone (fset (i := 5) sc.nd rfl (Or.inl rfl) (fadd (fidx (fidx (fv 3) (fneg fint)) (fsub (fv 4) (fv 2))) (fidx (fv 0) (fneg fint))))) fsnil) (fsone (fsfor hp rfl (fienum E.f_enumerate (facons (fv 0) fanil)) (fgtup rfl (fgcons (fgname (i := 6) sc.nd rfl (Or.inl rfl)) (fgcons (fgname (i := 7) sc.nd rfl (Or.inl rfl)) fgnil))) (nxTup (nxCons (nxName 6) (nxCons (nxName 7) nxNil))) (fscons (fsif (tgt (fv 4) fint) (fsone (fset (i := 5) sc.nd rfl (Or.inl rfl) (fmax2 rfl E.f_max (facons (fv 5) (facons (fadd (fidx (fidx (fv 3) (fv 6)) (fsub (fv 4) fint)) (fv 7)) fanil))))) fsnil) (fscons (fexpr (fmeth oAppend PySem.F.slot_list_append rfl mt_append (fidx (fv 3) (fv 6)) (facons (fv 5) fanil))) (fsone (fsaugAdd (n := 5) sc.nd rfl (Or.inl rfl) (fv 7)))))))))) (fsone (fret (fctuple E.f_tuple (facons (fcomp hZ rfl sc.nd (fiseq (fv 3)) (blkOk_by (own := [(("stage" : Str), 6)]) (by rfl)) (fun _ _ _ _ _ => (fwname (i := 6) sc.nd rfl (Or.inl rfl))) (fun _ _ _ _ _ => ftsnil) (fun _ _ _ _ _ => (fctuple E.f_tuple (facons (fv 6) fanil)))) fanil))))))
theorem sc_begins : FnScope ["times", "many", "row"] ["times", "many"] (defScope s_begins) := ⟨rfl, rfl, rfl, by decide +kernel, rfl, by decide +kernel, by decide +kernel⟩
theorem b_begins (E : EV K mg) : Binds K E.fd_begins ["times", "many"] [] := E.D_begins.bindsN fun _ _ _ _ _ _ us hl => match us, hl with | [_, _], _ => rfl
theorem ok_begins (E : EV K mg) : FnF P w K mg base 6 (He.ga K "begins") E.fd_begins ["times", "many"] F_begins := by
  have sc := sc_begins
  refine fnF_of (k := 5) E.D_begins sc_begins (fun Z hZ X cdv A outer s H EE hX hr => ?_)
  subst hX
  have tk : Takes _ (wE EE) := takes_of (X := cxOf (CX P w) P w K mg base ["times", "many", "row"] "begins" (defScope s_begins) (He.ga K "begins") cdv A outer s H EE) rfl rfl rfl rfl
  have hp := passes_of (X := cxOf (CX P w) P w K mg base ["times", "many", "row"] "begins" (defScope s_begins) (He.ga K "begins") cdv A outer s H EE) rfl
  exact (fscons (fset (i := 2) sc.nd rfl (Or.inl rfl) (fcall hZ (ok_checked_times E) ar_checked_times (hr.mono (by decide)) tk E.g_checked_times E.D_checked_times.kp (b_checked_times E) (facons (fv 0) (facons (fv 1) fanil)))) (fsone (fret (fcall hZ (ok_begins_within E) ar_begins_within (hr.mono (by decide)) tk E.g_begins_within E.D_begins_within.kp (b_begins_within E) (facons (fv 2) (facons (fv 1) (facons (fv 1) fanil)))))))
theorem sc_is_table : FnScope ["row", "many", "value", "stage", "tick"] ["row", "many", "value"] (defScope s_is_table) := ⟨rfl, rfl, rfl, by decide +kernel, rfl, by decide +kernel, by decide +kernel⟩
theorem b_is_table (E : EV K mg) : Binds K E.fd_is_table ["row", "many", "value"] [] := E.D_is_table.bindsN fun _ _ _ _ _ _ us hl => match us, hl with | [_, _, _], _ => rfl
theorem ok_is_table (E : EV K mg) : FnF P w K mg base 3 (He.ga K "is_table") E.fd_is_table ["row", "many", "value"] F_is_table := by
  have sc := sc_is_table
  refine fnF_of (k := 2) E.D_is_table sc_is_table (fun Z hZ X cdv A outer s H EE hX hr => ?_)
  subst hX
  have tk : Takes _ (wE EE) := takes_of (X := cxOf (CX P w) P w K mg base ["row", "many", "value", "stage", "tick"] "is_table" (defScope s_is_table) (He.ga K "is_table") cdv A outer s H EE) rfl rfl rfl rfl
  have hp := passes_of (X := cxOf (CX P w) P w K mg base ["row", "many", "value", "stage", "tick"] "is_table" (defScope s_is_table) (He.ga K "is_table") cdv A outer s H EE) rfl
  exact (fscons (fsif (ft_w (fw_or (ft_not (ft_val (fisTuple E.f_isinstance E.f_tuple (fv 2)))) (fw_or1 (tne hr.units (flen E.f_len (facons (fv 2) fanil)) (flen E.f_len (facons (fv 0) fanil)))))) (fsone (fret fbl)) fsnil) (fscons (fsfor hp rfl (fiseq (fv 2)) (fgname (i := 3) sc.nd rfl (Or.inl rfl)) (nxName 3) (fscons (fsif (ft_w (fw_or (ft_not (ft_val (fisTuple E.f_isinstance E.f_tuple (fv 3)))) (fw_or1 (tne hr.units (flen E.f_len (facons (fv 3) fanil)) (fv 1))))) (fsone (fret fbl)) fsnil) (fsone (fsif (ft_not (ft_val (fall rfl E.f_all (facons (fcomp hZ rfl sc.nd (fiseq (fv 3)) (blkOk_by (own := [(("tick" : Str), 4)]) (by rfl)) (fun _ _ _ _ _ => (fwname (i := 4) sc.nd rfl (Or.inl rfl))) (fun _ _ _ _ _ => ftsnil) (fun _ _ _ _ _ => (fand (fcall hZ (ok_is_integer E) ar_is_integer (hr.mono (by decide)) takesW0 E.g_is_integer E.D_is_integer.kp (b_is_integer E) (facons (fv 4) fanil)) (fone (fge (fv 4) fint))))) fanil)))) (fsone (fret fbl)) fsnil)))) (fsone (fret fbl))))
theorem sc_begins_hold : FnScope ["times", "many", "value", "row", "stage", "ticks", "item", "tick"] ["times", "many", "value"] (defScope s_begins_hold) := ⟨rfl, rfl, rfl, by decide +kernel, rfl, by decide +kernel, by decide +kernel⟩
theorem b_begins_hold (E : EV K mg) : Binds K E.fd_begins_hold ["times", "many", "value"] [] := E.D_begins_hold.bindsN fun _ _ _ _ _ _ us hl => match us, hl with | [_, _, _], _ => rfl
theorem ok_begins_hold (E : EV K mg) : FnF P w K mg base 6 (He.ga K "begins_hold") E.fd_begins_hold ["times", "many", "value"] F_begins_hold := by
  have sc := sc_begins_hold
  refine fnF_of (k := 5) E.D_begins_hold sc_begins_hold (fun Z hZ X cdv A outer s H EE hX hr => ?_)
  subst hX
  have tk : Takes _ (wE EE) := takes_of (X := cxOf (CX P w) P w K mg base ["times", "many", "value", "row", "stage", "ticks", "item", "tick"] "begins_hold" (defScope s_begins_hold) (He.ga K "begins_hold") cdv A outer s H EE) rfl rfl rfl rfl
  have hp := passes_of (X := cxOf (CX P w) P w K mg base ["times", "many", "value", "row", "stage", "ticks", "item", "tick"] "begins_hold" (defScope s_begins_hold) (He.ga K "begins_hold") cdv A outer s H EE) rfl
  exact (fscons (fset (i := 3) sc.nd rfl (Or.inl rfl) (fcall hZ (ok_checked_times E) ar_checked_times (hr.mono (by decide)) tk E.g_checked_times E.D_checked_times.kp (b_checked_times E) (facons (fv 0) (facons (fv 1) fanil)))) (fscons (fsif (ft_not (ft_val (fcall hZ (ok_is_table E) ar_is_table (hr.mono (by decide)) tk E.g_is_table E.D_is_table.kp (b_is_table E) (facons (fv 3) (facons (fv 1) (facons (fv 2) fanil)))))) (fsone (fret fbl)) fsnil) (fscons (fsfor hp rfl (fienum E.f_enumerate (facons (fv 3) fanil)) (fgtup rfl (fgcons (fgname (i := 4) sc.nd rfl (Or.inl rfl)) (fgcons (fgname (i := 5) sc.nd rfl (Or.inl rfl)) fgnil))) (nxTup (nxCons (nxName 4) (nxCons (nxName 5) nxNil))) (fsone (fsfor hp rfl (fir1 (by rfl) E.f_range (facons (fv 1) fanil)) (fgname (i := 6) sc.nd rfl (Or.inl rfl)) (nxName 6) (fscons (fset (i := 7) sc.nd rfl (Or.inl rfl) (fidx (fidx (fv 2) (fv 4)) (fv 6))) (fscons (fsif (ft_w (fw_and (tgt (fv 6) fint) (fw_and1 (tlt (fv 7) (fadd (fidx (fidx (fv 2) (fv 4)) (fsub (fv 6) fint)) (fv 5)))))) (fsone (fret fbl)) fsnil) (fsone (fsif (ft_w (fw_and (tgt (fv 4) fint) (fw_and1 (tlt (fv 7) (fadd (fidx (fidx (fv 2) (fsub (fv 4) fint)) (fv 6)) (fidx (fv 3) (fsub (fv 4) fint))))))) (fsone (fret fbl)) fsnil))))))) (fsone (fret fbl)))))
theorem sc_end_of : FnScope ["row", "table"] ["row", "table"] (defScope s_end_of) := ⟨rfl, rfl, rfl, by decide +kernel, rfl, by decide +kernel, by decide +kernel⟩
theorem b_end_of (E : EV K mg) : Binds K E.fd_end_of ["row", "table"] [] := E.D_end_of.bindsN fun _ _ _ _ _ _ us hl => match us, hl with | [_, _], _ => rfl
theorem ok_end_of (E : EV K mg) : FnF P w K mg base 2 (He.ga K "end_of") E.fd_end_of ["row", "table"] F_end_of := by
  have sc := sc_end_of
  refine fnF_of (k := 1) E.D_end_of sc_end_of (fun Z hZ X cdv A outer s H EE hX hr => ?_)
  subst hX
  have tk : Takes _ (wE EE) := takes_of (X := cxOf (CX P w) P w K mg base ["row", "table"] "end_of" (defScope s_end_of) (He.ga K "end_of") cdv A outer s H EE) rfl rfl rfl rfl
  have hp := passes_of (X := cxOf (CX P w) P w K mg base ["row", "table"] "end_of" (defScope s_end_of) (He.ga K "end_of") cdv A outer s H EE) rfl
  exact (fsone (fret (fadd (fidx (fidx (fv 1) (fneg fint)) (fneg fint)) (fidx (fv 0) (fneg fint)))))
theorem sc_late_ticks : FnScope ["times", "many", "most", "row"] ["times", "many", "most"] (defScope s_late_ticks) := ⟨rfl, rfl, rfl, by decide +kernel, rfl, by decide +kernel, by decide +kernel⟩
theorem b_late_ticks (E : EV K mg) : Binds K E.fd_late_ticks ["times", "many", "most"] [] := E.D_late_ticks.bindsN fun _ _ _ _ _ _ us hl => match us, hl with | [_, _, _], _ => rfl
theorem ok_late_ticks (E : EV K mg) : FnF P w K mg base 6 (He.ga K "late_ticks") E.fd_late_ticks ["times", "many", "most"] F_late_ticks := by
  have sc := sc_late_ticks
  refine fnF_of (k := 5) E.D_late_ticks sc_late_ticks (fun Z hZ X cdv A outer s H EE hX hr => ?_)
  subst hX
  have tk : Takes _ (wE EE) := takes_of (X := cxOf (CX P w) P w K mg base ["times", "many", "most", "row"] "late_ticks" (defScope s_late_ticks) (He.ga K "late_ticks") cdv A outer s H EE) rfl rfl rfl rfl
  have hp := passes_of (X := cxOf (CX P w) P w K mg base ["times", "many", "most", "row"] "late_ticks" (defScope s_late_ticks) (He.ga K "late_ticks") cdv A outer s H EE) rfl
  exact (fscons (fset (i := 3) sc.nd rfl (Or.inl rfl) (fcall hZ (ok_checked_times E) ar_checked_times (hr.mono (by decide)) tk E.g_checked_times E.D_checked_times.kp (b_checked_times E) (facons (fv 0) (facons (fv 1) fanil)))) (fscons (fexpr (fcall hZ (ok_check_number E) ar_check_number (hr.mono (by decide)) tk E.g_check_number E.D_check_number.kp (b_check_number E) (facons (fv 2) (facons fint (facons (fglobI rfl E.c_MOST_ITEMS) fanil))))) (fsone (fret (fcall hZ (ok_end_of E) ar_end_of (hr.mono (by decide)) tk E.g_end_of E.D_end_of.kp (b_end_of E) (facons (fv 3) (facons (fcall hZ (ok_begins_within E) ar_begins_within (hr.mono (by decide)) tk E.g_begins_within E.D_begins_within.kp (b_begins_within E) (facons (fv 3) (facons (fv 1) (facons (fv 2) fanil)))) fanil)))))))
theorem sc_least_late : FnScope ["times", "many", "most", "row"] ["times", "many", "most"] (defScope s_least_late) := ⟨rfl, rfl, rfl, by decide +kernel, rfl, by decide +kernel, by decide +kernel⟩
theorem b_least_late (E : EV K mg) : Binds K E.fd_least_late ["times", "many", "most"] [] := E.D_least_late.bindsN fun _ _ _ _ _ _ us hl => match us, hl with | [_, _, _], _ => rfl
theorem ok_least_late (E : EV K mg) : FnF P w K mg base 6 (He.ga K "least_late") E.fd_least_late ["times", "many", "most"] F_least_late := by
  have sc := sc_least_late
  refine fnF_of (k := 5) E.D_least_late sc_least_late (fun Z hZ X cdv A outer s H EE hX hr => ?_)
  subst hX
  have tk : Takes _ (wE EE) := takes_of (X := cxOf (CX P w) P w K mg base ["times", "many", "most", "row"] "least_late" (defScope s_least_late) (He.ga K "least_late") cdv A outer s H EE) rfl rfl rfl rfl
  have hp := passes_of (X := cxOf (CX P w) P w K mg base ["times", "many", "most", "row"] "least_late" (defScope s_least_late) (He.ga K "least_late") cdv A outer s H EE) rfl
  exact (fscons (fset (i := 3) sc.nd rfl (Or.inl rfl) (fcall hZ (ok_checked_times E) ar_checked_times (hr.mono (by decide)) tk E.g_checked_times E.D_checked_times.kp (b_checked_times E) (facons (fv 0) (facons (fv 1) fanil)))) (fscons (fexpr (fcall hZ (ok_check_number E) ar_check_number (hr.mono (by decide)) tk E.g_check_number E.D_check_number.kp (b_check_number E) (facons (fv 2) (facons fint (facons (fglobI rfl E.c_MOST_ITEMS) fanil))))) (fsone (fret (fcall hZ (ok_begins_within E) ar_begins_within (hr.mono (by decide)) tk E.g_begins_within E.D_begins_within.kp (b_begins_within E) (facons (fv 3) (facons (fv 1) (facons (fv 2) fanil))))))))
theorem sc__law_piped : FnScope ["which", "sums", "items", "more", "error"] ["which", "sums", "items", "more"] (defScope s__law_piped) := ⟨rfl, rfl, rfl, by decide +kernel, rfl, by decide +kernel, by decide +kernel⟩
theorem b__law_piped (E : EV K mg) : Binds K E.fd__law_piped ["which", "sums", "items", "more"] [] := E.D__law_piped.bindsN fun _ _ _ _ _ _ us hl => match us, hl with | [_, _, _, _], _ => rfl
theorem ok__law_piped (E : EV K mg) : FnF P w K mg base 7 (He.ga K "_law_piped") E.fd__law_piped ["which", "sums", "items", "more"] F__law_piped := by
  have sc := sc__law_piped
  refine fnF_of (k := 6) E.D__law_piped sc__law_piped (fun Z hZ X cdv A outer s H EE hX hr => ?_)
  subst hX
  have tk : Takes _ (wE EE) := takes_of (X := cxOf (CX P w) P w K mg base ["which", "sums", "items", "more", "error"] "_law_piped" (defScope s__law_piped) (He.ga K "_law_piped") cdv A outer s H EE) rfl rfl rfl rfl
  have hp := passes_of (X := cxOf (CX P w) P w K mg base ["which", "sums", "items", "more", "error"] "_law_piped" (defScope s__law_piped) (He.ga K "_law_piped") cdv A outer s H EE) rfl
  exact (fsone (fstry (t := exT) hZ rfl rfl sc.nd tk (fun W2 pn2 xe2 tk2 hp2 => (fscons (fsif (teq hr.units (fv 0) fint) (fsone (fret (ftup (facons fstr (facons (fcall hZ (ok_pipe_ticks E) ar_pipe_ticks (hr.mono (by decide)) tk2 E.g_pipe_ticks E.D_pipe_ticks.kp (b_pipe_ticks E) (facons (fv 1) (facons (fv 2) fanil))) fanil))))) fsnil) (fscons (fsif (teq hr.units (fv 0) fint) (fsone (fret (ftup (facons fstr (facons (fcall hZ (ok_begins E) ar_begins (hr.mono (by decide)) tk2 E.g_begins E.D_begins.kp (b_begins E) (facons (fv 1) (facons (fv 2) fanil))) fanil))))) fsnil) (fscons (fsif (teq hr.units (fv 0) fint) (fsone (fret (ftup (facons fstr (facons (fcall hZ (ok_begins_hold E) ar_begins_hold (hr.mono (by decide)) tk2 E.g_begins_hold E.D_begins_hold.kp (b_begins_hold E) (facons (fv 1) (facons (fv 2) (facons (fv 3) fanil)))) fanil))))) fsnil) (fscons (fsif (teq hr.units (fv 0) fint) (fsone (fret (ftup (facons fstr (facons (fcall hZ (ok_late_ticks E) ar_late_ticks (hr.mono (by decide)) tk2 E.g_late_ticks E.D_late_ticks.kp (b_late_ticks E) (facons (fv 1) (facons (fv 2) (facons (fv 3) fanil)))) fanil))))) fsnil) (fscons (fsif (teq hr.units (fv 0) fint) (fsone (fret (ftup (facons fstr (facons (fcall hZ (ok_least_late E) ar_least_late (hr.mono (by decide)) tk2 E.g_least_late E.D_least_late.kp (b_least_late E) (facons (fv 1) (facons (fv 2) (facons (fv 3) fanil)))) fanil))))) fsnil) (fsone (fret (ftup (facons fstr (facons (fcallK0 hZ (ok_pipe_ticks E) ar_pipe_ticks (hr.mono (by decide)) tk2 E.g_pipe_ticks E.D_pipe_ticks.kp (kbinds_of (ks := ["many", "times"]) E.D_pipe_ticks 0 2 [1, 0] (by decide) (fun _ _ _ _ _ _ us ws h1 h2 => match us, ws, h1, h2 with | [], [_, _], _, _ => rfl)) (fkcons (fv 2) (fkcons (fv 1) fknil))) fanil))))))))))) (.as (⟨rfl, by decide, .inl E.g_InvalidRow⟩) (E.ex.hx (by decide)) (i := 4) rfl rfl (fun a oe c fs dd pn hc hz hf => (fscons (fsif (ft_val (fxis1 (i := 4) (E.ex.xi c hc) hz hf E.f_isinstance (pe_glob (v := .ref _) rfl E.g_InvalidNumber rfl (by decide)) (.own _) (E.ex.kit1 hc (by decide)))) (fsone (fret fnon)) fsnil) (fsone (fret (ftup (facons fstr (facons (fxf (i := 4) (E.ex.xi c hc).xf (E.ex.no c hc _ (by decide)) hz hf) fanil))))))) (.cons (⟨rfl, by decide, .inl E.g_DealError⟩) (E.ex.hx (by decide)) (fun a oe c fs dd pn hc hz hf => (fsone (fret fnon))) .nil))))
theorem sc__law_asked : FnScope ["which", "sums", "items", "more", "due", "own"] ["which", "sums", "items", "more"] (defScope s__law_asked) := ⟨rfl, rfl, rfl, by decide +kernel, rfl, by decide +kernel, by decide +kernel⟩
theorem b__law_asked (E : EV K mg) : Binds K E.fd__law_asked ["which", "sums", "items", "more"] [] := E.D__law_asked.bindsN fun _ _ _ _ _ _ us hl => match us, hl with | [_, _, _, _], _ => rfl
theorem ok__law_asked (E : EV K mg) : FnF P w K mg base 43 (He.ga K "_law_asked") E.fd__law_asked ["which", "sums", "items", "more"] F__law_asked := by
  have sc := sc__law_asked
  refine fnF_of (k := 42) E.D__law_asked sc__law_asked (fun Z hZ X cdv A outer s H EE hX hr => ?_)
  subst hX
  have tk : Takes _ (wE EE) := takes_of (X := cxOf (CX P w) P w K mg base ["which", "sums", "items", "more", "due", "own"] "_law_asked" (defScope s__law_asked) (He.ga K "_law_asked") cdv A outer s H EE) rfl rfl rfl rfl
  have hp := passes_of (X := cxOf (CX P w) P w K mg base ["which", "sums", "items", "more", "due", "own"] "_law_asked" (defScope s__law_asked) (He.ga K "_law_asked") cdv A outer s H EE) rfl
  exact (fscons (fset (i := 4) sc.nd rfl (Or.inl rfl) (fcall hZ (ok__law_due E) ar__law_due (hr.mono (by decide)) tk E.g__law_due E.D__law_due.kp (b__law_due E) (facons (fv 0) (facons (fv 1) (facons (fv 2) (facons (fv 3) fanil)))))) (fscons (fset (i := 5) sc.nd rfl (Or.inl rfl) (fclist E.f_list (facons (fv 1) fanil))) (fsone (fret (fand (fcall hZ (ok__law_same E 40) (ar__law_same 40) (hr.mono (by decide)) tk E.g__law_same E.D__law_same.kp (b__law_same E) (facons (fcall hZ (ok__law_piped E) ar__law_piped (hr.mono (by decide)) tk E.g__law_piped E.D__law_piped.kp (b__law_piped E) (facons (fv 0) (facons (fv 5) (facons (fv 2) (facons (fv 3) fanil))))) (facons (fv 4) fanil))) (fone (feq hr.units (fv 5) (fv 1))))))))
theorem sc__law_earlier : FnScope ["draws", "value", "rows", "row", "at"] ["draws", "value"] (defScope s__law_earlier) := ⟨rfl, rfl, rfl, by decide +kernel, rfl, by decide +kernel, by decide +kernel⟩
theorem b__law_earlier (E : EV K mg) : Binds K E.fd__law_earlier ["draws", "value"] [] := E.D__law_earlier.bindsN fun _ _ _ _ _ _ us hl => match us, hl with | [_, _], _ => rfl
theorem ok__law_earlier (E : EV K mg) : FnF P w K mg base 3 (He.ga K "_law_earlier") E.fd__law_earlier ["draws", "value"] F__law_earlier := by
  have sc := sc__law_earlier
  refine fnF_of (k := 2) E.D__law_earlier sc__law_earlier (fun Z hZ X cdv A outer s H EE hX hr => ?_)
  subst hX
  have tk : Takes _ (wE EE) := takes_of (X := cxOf (CX P w) P w K mg base ["draws", "value", "rows", "row", "at"] "_law_earlier" (defScope s__law_earlier) (He.ga K "_law_earlier") cdv A outer s H EE) rfl rfl rfl rfl
  have hp := passes_of (X := cxOf (CX P w) P w K mg base ["draws", "value", "rows", "row", "at"] "_law_earlier" (defScope s__law_earlier) (He.ga K "_law_earlier") cdv A outer s H EE) rfl
  exact (fscons (fsetcomp (i := 2) hZ rfl sc.nd rfl rfl rfl (fiseq (fv 1)) (blkOk_by (own := [(("row" : Str), 3)]) (by rfl)) (fun _ _ _ _ _ => (fwname (i := 3) sc.nd rfl (Or.inl rfl))) (fun _ _ _ _ _ => ftsnil) (fun _ _ _ _ _ => (fclist E.f_list (facons (fv 3) fanil)))) (fscons (fset (i := 3) sc.nd rfl (Or.inl rfl) (fidx (fv 2) (fcall hZ (ok__law_next E) ar__law_next (hr.mono (by decide)) tk E.g__law_next E.D__law_next.kp (b__law_next E) (facons (fv 0) (facons (flen E.f_len (facons (fv 2) fanil)) fanil))))) (fscons (fset (i := 4) sc.nd rfl (Or.inl rfl) (fcall hZ (ok__law_next E) ar__law_next (hr.mono (by decide)) tk E.g__law_next E.D__law_next.kp (b__law_next E) (facons (fv 0) (facons (flen E.f_len (facons (fv 3) fanil)) fanil)))) (fscons (fasg (fsub (fidx (fv 3) (fv 4)) fint) (fgsub (W := W0) (fv 3) (fv 4)) nxSub) (fsone (fret (fctuple E.f_tuple (facons (fcomp hZ rfl sc.nd (fiseq (fv 2)) (blkOk_by (own := [(("row" : Str), 3)]) (by rfl)) (fun _ _ _ _ _ => (fwname (i := 3) sc.nd rfl (Or.inl rfl))) (fun _ _ _ _ _ => ftsnil) (fun _ _ _ _ _ => (fctuple E.f_tuple (facons (fv 3) fanil)))) fanil))))))))
theorem sc_law : FnScope ["script", "draws", "prices", "count", "items", "heaps", "rest", "best", "cuts", "k", "cut", "other", "sums", "own", "value", "room"] ["script"] (defScope s_law) := ⟨rfl, rfl, rfl, by decide +kernel, rfl, by decide +kernel, by decide +kernel⟩
theorem b_law (E : EV K mg) : Binds K E.fd_law ["script"] [] := E.D_law.bindsN fun _ _ _ _ _ _ us hl => match us, hl with | [_], _ => rfl
theorem ok_law (E : EV K mg) : FnF P w K mg base 44 (He.ga K "law") E.fd_law ["script"] F_law := by
  have sc := sc_law
  refine fnF_of (k := 43) E.D_law sc_law (fun Z hZ X cdv A outer s H EE hX hr => ?_)
  subst hX
  have tk : Takes _ (wE EE) := takes_of (X := cxOf (CX P w) P w K mg base ["script", "draws", "prices", "count", "items", "heaps", "rest", "best", "cuts", "k", "cut", "other", "sums", "own", "value", "room"] "law" (defScope s_law) (He.ga K "law") cdv A outer s H EE) rfl rfl rfl rfl
  have hp := passes_of (X := cxOf (CX P w) P w K mg base ["script", "draws", "prices", "count", "items", "heaps", "rest", "best", "cuts", "k", "cut", "other", "sums", "own", "value", "room"] "law" (defScope s_law) (He.ga K "law") cdv A outer s H EE) rfl
  exact (fscons (fset (i := 1) sc.nd rfl (Or.inl rfl) (fcall hZ (ok__law_draws E) ar__law_draws (hr.mono (by decide)) tk E.g__law_draws E.D__law_draws.kp (b__law_draws E) (facons (fv 0) fanil))) (fscons (fset (i := 2) sc.nd rfl (Or.inl rfl) (fcall hZ (ok__law_prices E) ar__law_prices (hr.mono (by decide)) tk E.g__law_prices E.D__law_prices.kp (b__law_prices E) (facons (fv 1) fanil))) (fscons (fset (i := 3) sc.nd rfl (Or.inl rfl) (fadd fint (fcall hZ (ok__law_next E) ar__law_next (hr.mono (by decide)) tk E.g__law_next E.D__law_next.kp (b__law_next E) (facons (fv 1) (facons (fmin2 rfl E.f_min (facons fint (facons (flen E.f_len (facons (fv 2) fanil)) fanil))) fanil))))) (fscons (fset (i := 4) sc.nd rfl (Or.inl rfl) (fadd fint (fcall hZ (ok__law_next E) ar__law_next (hr.mono (by decide)) tk E.g__law_next E.D__law_next.kp (b__law_next E) (facons (fv 1) (facons fint fanil))))) (fscons (fset (i := 5) sc.nd rfl (Or.inl rfl) (fcall hZ (ok__law_heaps E) ar__law_heaps (hr.mono (by decide)) tk E.g__law_heaps E.D__law_heaps.kp (b__law_heaps E) (facons (fv 2) fanil))) (fscons (fset (i := 6) sc.nd rfl (Or.inl rfl) (fcall hZ (ok__law_rest E) ar__law_rest (hr.mono (by decide)) tk E.g__law_rest E.D__law_rest.kp (b__law_rest E) (facons (fv 5) fanil))) (fscons (fsif (ft_not (ft_val (fcall hZ (ok__law_cut_right E) ar__law_cut_right (hr.mono (by decide)) tk E.g__law_cut_right E.D__law_cut_right.kp (b__law_cut_right E) (facons (fv 2) (facons (fv 5) (facons (fv 6) (facons (fv 3) fanil))))))) (fsone (fret fbl)) fsnil) (fscons (fset (i := 7) sc.nd rfl (Or.inl rfl) (fcall hZ (ok__law_first E) ar__law_first (hr.mono (by decide)) tk E.g__law_first E.D__law_first.kp (b__law_first E) (facons (fv 5) (facons (fv 6) (facons (fv 3) fanil))))) (fscons (fset (i := 8) sc.nd rfl (Or.inl rfl) (flst (facons (fv 7) fanil))) (fscons (fsfor hp rfl (fir1 (by rfl) E.f_range (facons fint fanil)) (fgname (i := 9) sc.nd rfl (Or.inl rfl)) (nxName 9) (fsone (fexpr (fmeth oAppend PySem.F.slot_list_append rfl mt_append (fv 8) (facons (fcall hZ (ok__law_drawn E) ar__law_drawn (hr.mono (by decide)) tk E.g__law_drawn E.D__law_drawn.kp (b__law_drawn E) (facons (fv 1) (facons (flen E.f_len (facons (fv 2) fanil)) (facons (fv 3) fanil)))) fanil))))) (fscons (fsif (ft_w (fw_or (tlt (flen E.f_len (facons (fv 2) fanil)) fint) (fw_or1 (tlt (fv 3) fint)))) (fsone (fset (i := 8) sc.nd rfl (Or.inl rfl) (fadd (flst (facons (fv 7) fanil)) (fcall hZ (ok__law_every E) ar__law_every (hr.mono (by decide)) tk E.g__law_every E.D__law_every.kp (b__law_every E) (facons (flen E.f_len (facons (fv 2) fanil)) (facons (fv 3) fanil)))))) fsnil) (fscons (fsfor hp rfl (fiseq (fv 8)) (fgname (i := 10) sc.nd rfl (Or.inl rfl)) (nxName 10) (fsone (fsif (ft_not (ft_val (fcall hZ (ok__law_asked E) ar__law_asked (hr.mono (by decide)) tk E.g__law_asked E.D__law_asked.kp (b__law_asked E) (facons (fmul fint (fcall hZ (ok__law_next E) ar__law_next (hr.mono (by decide)) tk E.g__law_next E.D__law_next.kp (b__law_next E) (facons (fv 1) (facons fint fanil)))) (facons (fcall hZ (ok__law_sums E) ar__law_sums (hr.mono (by decide)) tk E.g__law_sums E.D__law_sums.kp (b__law_sums E) (facons (fv 5) (facons (fv 10) fanil))) (facons (fv 4) (facons fnon fanil))))))) (fsone (fret fbl)) fsnil))) (fscons (fset (i := 11) sc.nd rfl (Or.inl rfl) (fcall hZ (ok__law_begins E) ar__law_begins (hr.mono (by decide)) tk E.g__law_begins E.D__law_begins.kp (b__law_begins E) (facons (fcall hZ (ok__law_sums E) ar__law_sums (hr.mono (by decide)) tk E.g__law_sums E.D__law_sums.kp (b__law_sums E) (facons (fv 5) (facons (fidx (fv 8) (fcall hZ (ok__law_next E) ar__law_next (hr.mono (by decide)) tk E.g__law_next E.D__law_next.kp (b__law_next E) (facons (fv 1) (facons (flen E.f_len (facons (fv 8) fanil)) fanil)))) fanil))) (facons (fv 4) fanil)))) (fscons (fsfor hp rfl (fiseq (ftup (facons (fv 7) (facons (fidx (fv 8) (fcall hZ (ok__law_next E) ar__law_next (hr.mono (by decide)) tk E.g__law_next E.D__law_next.kp (b__law_next E) (facons (fv 1) (facons (flen E.f_len (facons (fv 8) fanil)) fanil)))) fanil)))) (fgname (i := 10) sc.nd rfl (Or.inl rfl)) (nxName 10) (fscons (fset (i := 12) sc.nd rfl (Or.inl rfl) (fcall hZ (ok__law_sums E) ar__law_sums (hr.mono (by decide)) tk E.g__law_sums E.D__law_sums.kp (b__law_sums E) (facons (fv 5) (facons (fv 10) fanil)))) (fscons (fset (i := 13) sc.nd rfl (Or.inl rfl) (fcall hZ (ok__law_begins E) ar__law_begins (hr.mono (by decide)) tk E.g__law_begins E.D__law_begins.kp (b__law_begins E) (facons (fv 12) (facons (fv 4) fanil)))) (fscons (fsfor hp rfl (fiseq (ftup (facons (fv 13) (facons (fcall hZ (ok__law_earlier E) ar__law_earlier (hr.mono (by decide)) tk E.g__law_earlier E.D__law_earlier.kp (b__law_earlier E) (facons (fv 1) (facons (fv 13) fanil))) (facons (fv 11) fanil))))) (fgname (i := 14) sc.nd rfl (Or.inl rfl)) (nxName 14) (fsone (fsif (ft_not (ft_val (fcall hZ (ok__law_asked E) ar__law_asked (hr.mono (by decide)) tk E.g__law_asked E.D__law_asked.kp (b__law_asked E) (facons fint (facons (fv 12) (facons (fv 4) (facons (fv 14) fanil))))))) (fsone (fret fbl)) fsnil))) (fscons (fsfor hp rfl (fiseq (ftup (facons fint (facons (fv 3) (facons (fadd fint (fcall hZ (ok__law_next E) ar__law_next (hr.mono (by decide)) tk E.g__law_next E.D__law_next.kp (b__law_next E) (facons (fv 1) (facons fint fanil)))) fanil))))) (fgname (i := 15) sc.nd rfl (Or.inl rfl)) (nxName 15) (fsone (fsif (ft_not (ft_val (fcall hZ (ok__law_asked E) ar__law_asked (hr.mono (by decide)) tk E.g__law_asked E.D__law_asked.kp (b__law_asked E) (facons fint (facons (fv 12) (facons (fv 4) (facons (fv 15) fanil))))))) (fsone (fret fbl)) fsnil))) (fsone (fsif (ft_w (fw_or (ft_not (ft_val (fcall hZ (ok__law_asked E) ar__law_asked (hr.mono (by decide)) tk E.g__law_asked E.D__law_asked.kp (b__law_asked E) (facons fint (facons (fv 12) (facons (fv 4) (facons fnon fanil))))))) (fw_or1 (ft_not (ft_val (fcall hZ (ok__law_asked E) ar__law_asked (hr.mono (by decide)) tk E.g__law_asked E.D__law_asked.kp (b__law_asked E) (facons fint (facons (fv 12) (facons (fv 4) (facons (fadd fint (fcall hZ (ok__law_next E) ar__law_next (hr.mono (by decide)) tk E.g__law_next E.D__law_next.kp (b__law_next E) (facons (fv 1) (facons fint fanil)))) fanil)))))))))) (fsone (fret fbl)) fsnil))))))) (fsone (fret fbl))))))))))))))))
end
def dfs : List He.DefD := [⟨("_law_draws", none), "_law_draws", "_law_draws", defArgs s__law_draws, defBody s__law_draws, defScope s__law_draws, [], []⟩,
  ⟨("_law_next", none), "_law_next", "_law_next", defArgs s__law_next, defBody s__law_next, defScope s__law_next, [], []⟩,
  ⟨("_law_prices", none), "_law_prices", "_law_prices", defArgs s__law_prices, defBody s__law_prices, defScope s__law_prices, [], []⟩,
  ⟨("_law_heaps", none), "_law_heaps", "_law_heaps", defArgs s__law_heaps, defBody s__law_heaps, defScope s__law_heaps, [], []⟩,
  ⟨("_law_rest", none), "_law_rest", "_law_rest", defArgs s__law_rest, defBody s__law_rest, defScope s__law_rest, [], []⟩,
  ⟨("_law_first", none), "_law_first", "_law_first", defArgs s__law_first, defBody s__law_first, defScope s__law_first, [], []⟩,
  ⟨("_law_begins", none), "_law_begins", "_law_begins", defArgs s__law_begins, defBody s__law_begins, defScope s__law_begins, [], []⟩,
  ⟨("_law_paper", none), "_law_paper", "_law_paper", defArgs s__law_paper, defBody s__law_paper, defScope s__law_paper, [], []⟩,
  ⟨("is_integer", none), "is_integer", "is_integer", defArgs s_is_integer, defBody s_is_integer, defScope s_is_integer, [], []⟩,
  ⟨("is_from_to", none), "is_from_to", "is_from_to", defArgs s_is_from_to, defBody s_is_from_to, defScope s_is_from_to, [], []⟩,
  ⟨("checked_row", none), "checked_row", "checked_row", defArgs s_checked_row, defBody s_checked_row, defScope s_checked_row, [], []⟩,
  ⟨("checked_costs", none), "checked_costs", "checked_costs", defArgs s_checked_costs, defBody s_checked_costs, defScope s_checked_costs, [], []⟩,
  ⟨("check_number", none), "check_number", "check_number", defArgs s_check_number, defBody s_check_number, defScope s_check_number, [], []⟩,
  ⟨("checked_cut", none), "checked_cut", "checked_cut", defArgs s_checked_cut, defBody s_checked_cut, defScope s_checked_cut, [], []⟩,
  ⟨("is_pair_of", none), "is_pair_of", "is_pair_of", defArgs s_is_pair_of, defBody s_is_pair_of, defScope s_is_pair_of, [], []⟩,
  ⟨("top_paper_holds", none), "top_paper_holds", "top_paper_holds", defArgs s_top_paper_holds, defBody s_top_paper_holds, defScope s_top_paper_holds, [], []⟩,
  ⟨("_law_same", none), "_law_same", "_law_same", defArgs s__law_same, defBody s__law_same, defScope s__law_same, [], []⟩,
  ⟨("stages_needed", none), "stages_needed", "stages_needed", defArgs s_stages_needed, defBody s_stages_needed, defScope s_stages_needed, [], []⟩,
  ⟨("top_needed", none), "top_needed", "top_needed", defArgs s_top_needed, defBody s_top_needed, defScope s_top_needed, [], []⟩,
  ⟨("can_be_cut", none), "can_be_cut", "can_be_cut", defArgs s_can_be_cut, defBody s_can_be_cut, defScope s_can_be_cut, [], []⟩,
  ⟨("best_cut", none), "best_cut", "best_cut", defArgs s_best_cut, defBody s_best_cut, defScope s_best_cut, [], []⟩,
  ⟨("least_top", none), "least_top", "least_top", defArgs s_least_top, defBody s_least_top, defScope s_least_top, [], []⟩,
  ⟨("fewest_stages", none), "fewest_stages", "fewest_stages", defArgs s_fewest_stages, defBody s_fewest_stages, defScope s_fewest_stages, [], []⟩,
  ⟨("shortest_from", none), "shortest_from", "shortest_from", defArgs s_shortest_from, defBody s_shortest_from, defScope s_shortest_from, [], []⟩,
  ⟨("top_paper", none), "top_paper", "top_paper", defArgs s_top_paper, defBody s_top_paper, defScope s_top_paper, [], []⟩,
  ⟨("_law_cut_right", none), "_law_cut_right", "_law_cut_right", defArgs s__law_cut_right, defBody s__law_cut_right, defScope s__law_cut_right, [], []⟩,
  ⟨("_law_sums", none), "_law_sums", "_law_sums", defArgs s__law_sums, defBody s__law_sums, defScope s__law_sums, [], []⟩,
  ⟨("_law_drawn", none), "_law_drawn", "_law_drawn", defArgs s__law_drawn, defBody s__law_drawn, defScope s__law_drawn, [], []⟩,
  ⟨("_law_every", none), "_law_every", "_law_every", defArgs s__law_every, defBody s__law_every, defScope s__law_every, [], []⟩,
  ⟨("_law_holds", none), "_law_holds", "_law_holds", defArgs s__law_holds, defBody s__law_holds, defScope s__law_holds, [], []⟩,
  ⟨("_law_late", none), "_law_late", "_law_late", defArgs s__law_late, defBody s__law_late, defScope s__law_late, [], []⟩,
  ⟨("_law_due", none), "_law_due", "_law_due", defArgs s__law_due, defBody s__law_due, defScope s__law_due, [], []⟩,
  ⟨("checked_times", none), "checked_times", "checked_times", defArgs s_checked_times, defBody s_checked_times, defScope s_checked_times, [], []⟩,
  ⟨("pipe_ticks", none), "pipe_ticks", "pipe_ticks", defArgs s_pipe_ticks, defBody s_pipe_ticks, defScope s_pipe_ticks, [], []⟩,
  ⟨("begins_within", none), "begins_within", "begins_within", defArgs s_begins_within, defBody s_begins_within, defScope s_begins_within, [], []⟩,
  ⟨("begins", none), "begins", "begins", defArgs s_begins, defBody s_begins, defScope s_begins, [], []⟩,
  ⟨("is_table", none), "is_table", "is_table", defArgs s_is_table, defBody s_is_table, defScope s_is_table, [], []⟩,
  ⟨("begins_hold", none), "begins_hold", "begins_hold", defArgs s_begins_hold, defBody s_begins_hold, defScope s_begins_hold, [], []⟩,
  ⟨("end_of", none), "end_of", "end_of", defArgs s_end_of, defBody s_end_of, defScope s_end_of, [], []⟩,
  ⟨("late_ticks", none), "late_ticks", "late_ticks", defArgs s_late_ticks, defBody s_late_ticks, defScope s_late_ticks, [], []⟩,
  ⟨("least_late", none), "least_late", "least_late", defArgs s_least_late, defBody s_least_late, defScope s_least_late, [], []⟩,
  ⟨("_law_piped", none), "_law_piped", "_law_piped", defArgs s__law_piped, defBody s__law_piped, defScope s__law_piped, [], []⟩,
  ⟨("_law_asked", none), "_law_asked", "_law_asked", defArgs s__law_asked, defBody s__law_asked, defScope s__law_asked, [], []⟩,
  ⟨("_law_earlier", none), "_law_earlier", "_law_earlier", defArgs s__law_earlier, defBody s__law_earlier, defScope s__law_earlier, [], []⟩,
  ⟨("law", none), "law", "law", defArgs s_law, defBody s_law, defScope s_law, [], []⟩,
  ⟨("InvalidNumber", some "__init__"), "__init__", "InvalidNumber.__init__", defArgs s_InvalidNumber, defBody s_InvalidNumber, defScope s_InvalidNumber, [], []⟩,
  ⟨("InvalidRow", some "__init__"), "__init__", "InvalidRow.__init__", defArgs s_InvalidRow, defBody s_InvalidRow, defScope s_InvalidRow, [], []⟩]
def fas : List He.Fa := [.glo "_law_draws", .glo "_law_next", .glo "_law_prices", .glo "_law_heaps", .glo "_law_rest", .glo "_law_first", .glo "_law_begins", .glo "_law_paper", .glo "is_integer", .glo "is_from_to", .glo "checked_row", .glo "checked_costs", .glo "check_number", .glo "checked_cut", .glo "is_pair_of", .glo "top_paper_holds", .glo "_law_same", .glo "stages_needed", .glo "top_needed", .glo "can_be_cut", .glo "best_cut", .glo "least_top", .glo "fewest_stages", .glo "shortest_from", .glo "top_paper", .glo "_law_cut_right", .glo "_law_sums", .glo "_law_drawn", .glo "_law_every", .glo "_law_holds", .glo "_law_late", .glo "_law_due", .glo "checked_times", .glo "pipe_ticks", .glo "begins_within", .glo "begins", .glo "is_table", .glo "begins_hold", .glo "end_of", .glo "late_ticks", .glo "least_late", .glo "_law_piped", .glo "_law_asked", .glo "_law_earlier", .glo "law", .glo "InvalidNumber", .glo "InvalidRow", .meth "InvalidNumber" "__init__", .noat "InvalidNumber" "number", .meth "InvalidRow" "__init__", .noat "InvalidRow" "place", .glo "DealError", .glo "InvalidNumber", .glo "InvalidRow", .int "MOST_COST" 1000, .int "MOST_COSTS" 14, .int "MOST_ITEMS" 20, .int "MOST_STAGES" 6, .int "MOST_TICKS" 20, .int "MOST_TOP" 20000, .free "all", .free "bool", .free "enumerate", .free "int", .free "isinstance", .free "len", .free "list", .free "max", .free "min", .free "range", .free "reversed", .free "str", .free "sum", .free "tuple"]
def exq (K : PySem.W.Frag) : Bool := exB exT exN exK exF K && oexB K (He.ga K "InvalidNumber") && oexB K (He.ga K "InvalidRow")
theorem ev_of {K : PySem.W.Frag} {h : Heap} {mg : Str → Option Value} (X : K.In h) (G : h.Ns mainGlobals mg) (c : SaysL fas dfs exq K) : Nonempty (EV K mg) := by
  obtain ⟨c, q⟩ := c
  obtain ⟨fd__law_draws, D__law_draws⟩ := c.def_ 0 rfl
  obtain ⟨fd__law_next, D__law_next⟩ := c.def_ 1 rfl
  obtain ⟨fd__law_prices, D__law_prices⟩ := c.def_ 2 rfl
  obtain ⟨fd__law_heaps, D__law_heaps⟩ := c.def_ 3 rfl
  obtain ⟨fd__law_rest, D__law_rest⟩ := c.def_ 4 rfl
  obtain ⟨fd__law_first, D__law_first⟩ := c.def_ 5 rfl
  obtain ⟨fd__law_begins, D__law_begins⟩ := c.def_ 6 rfl
  obtain ⟨fd__law_paper, D__law_paper⟩ := c.def_ 7 rfl
  obtain ⟨fd_is_integer, D_is_integer⟩ := c.def_ 8 rfl
  obtain ⟨fd_is_from_to, D_is_from_to⟩ := c.def_ 9 rfl
  obtain ⟨fd_checked_row, D_checked_row⟩ := c.def_ 10 rfl
  obtain ⟨fd_checked_costs, D_checked_costs⟩ := c.def_ 11 rfl
  obtain ⟨fd_check_number, D_check_number⟩ := c.def_ 12 rfl
  obtain ⟨fd_checked_cut, D_checked_cut⟩ := c.def_ 13 rfl
  obtain ⟨fd_is_pair_of, D_is_pair_of⟩ := c.def_ 14 rfl
  obtain ⟨fd_top_paper_holds, D_top_paper_holds⟩ := c.def_ 15 rfl
  obtain ⟨fd__law_same, D__law_same⟩ := c.def_ 16 rfl
  obtain ⟨fd_stages_needed, D_stages_needed⟩ := c.def_ 17 rfl
  obtain ⟨fd_top_needed, D_top_needed⟩ := c.def_ 18 rfl
  obtain ⟨fd_can_be_cut, D_can_be_cut⟩ := c.def_ 19 rfl
  obtain ⟨fd_best_cut, D_best_cut⟩ := c.def_ 20 rfl
  obtain ⟨fd_least_top, D_least_top⟩ := c.def_ 21 rfl
  obtain ⟨fd_fewest_stages, D_fewest_stages⟩ := c.def_ 22 rfl
  obtain ⟨fd_shortest_from, D_shortest_from⟩ := c.def_ 23 rfl
  obtain ⟨fd_top_paper, D_top_paper⟩ := c.def_ 24 rfl
  obtain ⟨fd__law_cut_right, D__law_cut_right⟩ := c.def_ 25 rfl
  obtain ⟨fd__law_sums, D__law_sums⟩ := c.def_ 26 rfl
  obtain ⟨fd__law_drawn, D__law_drawn⟩ := c.def_ 27 rfl
  obtain ⟨fd__law_every, D__law_every⟩ := c.def_ 28 rfl
  obtain ⟨fd__law_holds, D__law_holds⟩ := c.def_ 29 rfl
  obtain ⟨fd__law_late, D__law_late⟩ := c.def_ 30 rfl
  obtain ⟨fd__law_due, D__law_due⟩ := c.def_ 31 rfl
  obtain ⟨fd_checked_times, D_checked_times⟩ := c.def_ 32 rfl
  obtain ⟨fd_pipe_ticks, D_pipe_ticks⟩ := c.def_ 33 rfl
  obtain ⟨fd_begins_within, D_begins_within⟩ := c.def_ 34 rfl
  obtain ⟨fd_begins, D_begins⟩ := c.def_ 35 rfl
  obtain ⟨fd_is_table, D_is_table⟩ := c.def_ 36 rfl
  obtain ⟨fd_begins_hold, D_begins_hold⟩ := c.def_ 37 rfl
  obtain ⟨fd_end_of, D_end_of⟩ := c.def_ 38 rfl
  obtain ⟨fd_late_ticks, D_late_ticks⟩ := c.def_ 39 rfl
  obtain ⟨fd_least_late, D_least_late⟩ := c.def_ 40 rfl
  obtain ⟨fd__law_piped, D__law_piped⟩ := c.def_ 41 rfl
  obtain ⟨fd__law_asked, D__law_asked⟩ := c.def_ 42 rfl
  obtain ⟨fd__law_earlier, D__law_earlier⟩ := c.def_ 43 rfl
  obtain ⟨fd_law, D_law⟩ := c.def_ 44 rfl
  obtain ⟨fd_InvalidNumber, D_InvalidNumber⟩ := c.def_ 45 rfl
  obtain ⟨fd_InvalidRow, D_InvalidRow⟩ := c.def_ 46 rfl
  obtain ⟨q, q_InvalidRow⟩ := Bool.and_eq_true_iff.mp q
  obtain ⟨q, q_InvalidNumber⟩ := Bool.and_eq_true_iff.mp q
  exact ⟨{
    fd__law_draws := fd__law_draws, D__law_draws := D__law_draws, g__law_draws := He.glo_ok X G (c.fact 0 rfl),
    fd__law_next := fd__law_next, D__law_next := D__law_next, g__law_next := He.glo_ok X G (c.fact 1 rfl),
    fd__law_prices := fd__law_prices, D__law_prices := D__law_prices, g__law_prices := He.glo_ok X G (c.fact 2 rfl),
    fd__law_heaps := fd__law_heaps, D__law_heaps := D__law_heaps, g__law_heaps := He.glo_ok X G (c.fact 3 rfl),
    fd__law_rest := fd__law_rest, D__law_rest := D__law_rest, g__law_rest := He.glo_ok X G (c.fact 4 rfl),
    fd__law_first := fd__law_first, D__law_first := D__law_first, g__law_first := He.glo_ok X G (c.fact 5 rfl),
    fd__law_begins := fd__law_begins, D__law_begins := D__law_begins, g__law_begins := He.glo_ok X G (c.fact 6 rfl),
    fd__law_paper := fd__law_paper, D__law_paper := D__law_paper, g__law_paper := He.glo_ok X G (c.fact 7 rfl),
    fd_is_integer := fd_is_integer, D_is_integer := D_is_integer, g_is_integer := He.glo_ok X G (c.fact 8 rfl),
    fd_is_from_to := fd_is_from_to, D_is_from_to := D_is_from_to, g_is_from_to := He.glo_ok X G (c.fact 9 rfl),
    fd_checked_row := fd_checked_row, D_checked_row := D_checked_row, g_checked_row := He.glo_ok X G (c.fact 10 rfl),
    fd_checked_costs := fd_checked_costs, D_checked_costs := D_checked_costs, g_checked_costs := He.glo_ok X G (c.fact 11 rfl),
    fd_check_number := fd_check_number, D_check_number := D_check_number, g_check_number := He.glo_ok X G (c.fact 12 rfl),
    fd_checked_cut := fd_checked_cut, D_checked_cut := D_checked_cut, g_checked_cut := He.glo_ok X G (c.fact 13 rfl),
    fd_is_pair_of := fd_is_pair_of, D_is_pair_of := D_is_pair_of, g_is_pair_of := He.glo_ok X G (c.fact 14 rfl),
    fd_top_paper_holds := fd_top_paper_holds, D_top_paper_holds := D_top_paper_holds, g_top_paper_holds := He.glo_ok X G (c.fact 15 rfl),
    fd__law_same := fd__law_same, D__law_same := D__law_same, g__law_same := He.glo_ok X G (c.fact 16 rfl),
    fd_stages_needed := fd_stages_needed, D_stages_needed := D_stages_needed, g_stages_needed := He.glo_ok X G (c.fact 17 rfl),
    fd_top_needed := fd_top_needed, D_top_needed := D_top_needed, g_top_needed := He.glo_ok X G (c.fact 18 rfl),
    fd_can_be_cut := fd_can_be_cut, D_can_be_cut := D_can_be_cut, g_can_be_cut := He.glo_ok X G (c.fact 19 rfl),
    fd_best_cut := fd_best_cut, D_best_cut := D_best_cut, g_best_cut := He.glo_ok X G (c.fact 20 rfl),
    fd_least_top := fd_least_top, D_least_top := D_least_top, g_least_top := He.glo_ok X G (c.fact 21 rfl),
    fd_fewest_stages := fd_fewest_stages, D_fewest_stages := D_fewest_stages, g_fewest_stages := He.glo_ok X G (c.fact 22 rfl),
    fd_shortest_from := fd_shortest_from, D_shortest_from := D_shortest_from, g_shortest_from := He.glo_ok X G (c.fact 23 rfl),
    fd_top_paper := fd_top_paper, D_top_paper := D_top_paper, g_top_paper := He.glo_ok X G (c.fact 24 rfl),
    fd__law_cut_right := fd__law_cut_right, D__law_cut_right := D__law_cut_right, g__law_cut_right := He.glo_ok X G (c.fact 25 rfl),
    fd__law_sums := fd__law_sums, D__law_sums := D__law_sums, g__law_sums := He.glo_ok X G (c.fact 26 rfl),
    fd__law_drawn := fd__law_drawn, D__law_drawn := D__law_drawn, g__law_drawn := He.glo_ok X G (c.fact 27 rfl),
    fd__law_every := fd__law_every, D__law_every := D__law_every, g__law_every := He.glo_ok X G (c.fact 28 rfl),
    fd__law_holds := fd__law_holds, D__law_holds := D__law_holds, g__law_holds := He.glo_ok X G (c.fact 29 rfl),
    fd__law_late := fd__law_late, D__law_late := D__law_late, g__law_late := He.glo_ok X G (c.fact 30 rfl),
    fd__law_due := fd__law_due, D__law_due := D__law_due, g__law_due := He.glo_ok X G (c.fact 31 rfl),
    fd_checked_times := fd_checked_times, D_checked_times := D_checked_times, g_checked_times := He.glo_ok X G (c.fact 32 rfl),
    fd_pipe_ticks := fd_pipe_ticks, D_pipe_ticks := D_pipe_ticks, g_pipe_ticks := He.glo_ok X G (c.fact 33 rfl),
    fd_begins_within := fd_begins_within, D_begins_within := D_begins_within, g_begins_within := He.glo_ok X G (c.fact 34 rfl),
    fd_begins := fd_begins, D_begins := D_begins, g_begins := He.glo_ok X G (c.fact 35 rfl),
    fd_is_table := fd_is_table, D_is_table := D_is_table, g_is_table := He.glo_ok X G (c.fact 36 rfl),
    fd_begins_hold := fd_begins_hold, D_begins_hold := D_begins_hold, g_begins_hold := He.glo_ok X G (c.fact 37 rfl),
    fd_end_of := fd_end_of, D_end_of := D_end_of, g_end_of := He.glo_ok X G (c.fact 38 rfl),
    fd_late_ticks := fd_late_ticks, D_late_ticks := D_late_ticks, g_late_ticks := He.glo_ok X G (c.fact 39 rfl),
    fd_least_late := fd_least_late, D_least_late := D_least_late, g_least_late := He.glo_ok X G (c.fact 40 rfl),
    fd__law_piped := fd__law_piped, D__law_piped := D__law_piped, g__law_piped := He.glo_ok X G (c.fact 41 rfl),
    fd__law_asked := fd__law_asked, D__law_asked := D__law_asked, g__law_asked := He.glo_ok X G (c.fact 42 rfl),
    fd__law_earlier := fd__law_earlier, D__law_earlier := D__law_earlier, g__law_earlier := He.glo_ok X G (c.fact 43 rfl),
    fd_law := fd_law, D_law := D_law, g_law := He.glo_ok X G (c.fact 44 rfl),
    fd_InvalidNumber := fd_InvalidNumber, D_InvalidNumber := D_InvalidNumber, x_InvalidNumber := ⟨oexB_ok q_InvalidNumber, (He.meth_ok (c.fact 47 (f := .meth "InvalidNumber" "__init__") rfl)).at_, isFn_ty (He.meth_ok (c.fact 47 (f := .meth "InvalidNumber" "__init__") rfl)).fn, (fun f hf => by
      simp only [List.mem_cons, List.not_mem_nil, or_false] at hf
      subst hf
      · exact He.noat_ok (c.fact 48 (f := .noat "InvalidNumber" "number") rfl)
    ), He.glo_ok X G (c.fact 45 rfl)⟩,
    fd_InvalidRow := fd_InvalidRow, D_InvalidRow := D_InvalidRow, x_InvalidRow := ⟨oexB_ok q_InvalidRow, (He.meth_ok (c.fact 49 (f := .meth "InvalidRow" "__init__") rfl)).at_, isFn_ty (He.meth_ok (c.fact 49 (f := .meth "InvalidRow" "__init__") rfl)).fn, (fun f hf => by
      simp only [List.mem_cons, List.not_mem_nil, or_false] at hf
      subst hf
      · exact He.noat_ok (c.fact 50 (f := .noat "InvalidRow" "place") rfl)
    ), He.glo_ok X G (c.fact 46 rfl)⟩,
    g_DealError := He.glo_ok X G (c.fact 51 rfl),
    g_InvalidNumber := He.glo_ok X G (c.fact 45 rfl),
    g_InvalidRow := He.glo_ok X G (c.fact 46 rfl),
    c_MOST_COST := He.int_ok X G (c.fact 54 rfl),
    c_MOST_COSTS := He.int_ok X G (c.fact 55 rfl),
    c_MOST_ITEMS := He.int_ok X G (c.fact 56 rfl),
    c_MOST_STAGES := He.int_ok X G (c.fact 57 rfl),
    c_MOST_TICKS := He.int_ok X G (c.fact 58 rfl),
    c_MOST_TOP := He.int_ok X G (c.fact 59 rfl),
    f_all := He.free_ok X G (c.fact 60 rfl),
    f_bool := He.free_ok X G (c.fact 61 rfl),
    f_enumerate := He.free_ok X G (c.fact 62 rfl),
    f_int := He.free_ok X G (c.fact 63 rfl),
    f_isinstance := He.free_ok X G (c.fact 64 rfl),
    f_len := He.free_ok X G (c.fact 65 rfl),
    f_list := He.free_ok X G (c.fact 66 rfl),
    f_max := He.free_ok X G (c.fact 67 rfl),
    f_min := He.free_ok X G (c.fact 68 rfl),
    f_range := He.free_ok X G (c.fact 69 rfl),
    f_reversed := He.free_ok X G (c.fact 70 rfl),
    f_str := He.free_ok X G (c.fact 71 rfl),
    f_sum := He.free_ok X G (c.fact 72 rfl),
    f_tuple := He.free_ok X G (c.fact 73 rfl),
    ex := exB_ok q }⟩
end K09

set_option Elab.async false
set_option linter.all false
set_option maxRecDepth 100000
set_option maxHeartbeats 0
set_option autoImplicit false

namespace K09
open PySem PySem.Spec L2 FL
def loose0 : List Str := ["DealError", "InvalidNumber", "InvalidRow", "is_integer", "is_from_to", "check_number", "checked_row", "MOST_STAGES", "MOST_TICKS", "MOST_ITEMS", "checked_times", "begins_within", "end_of", "begins", "pipe_ticks", "is_table", "begins_hold", "least_late", "late_ticks", "MOST_COSTS", "MOST_COST", "MOST_TOP", "checked_costs", "checked_cut", "stages_needed", "top_needed", "least_top", "can_be_cut", "best_cut", "fewest_stages"]
def loose1 : List Str := ["shortest_from", "top_paper", "is_pair_of", "top_paper_holds", "_law_draws", "_law_next", "_law_same", "_law_prices", "_law_heaps", "_law_rest", "_law_first", "_law_sums", "_law_every", "_law_drawn", "_law_paper", "_law_begins", "_law_late", "_law_holds", "_law_piped", "_law_due", "_law_asked", "_law_earlier", "_law_cut_right"]
def loose : List Str := loose0 ++ loose1
abbrev RR : PySem.W.OpenRow := PySem.W.OpenLaw.row PySem.Challenge.rw_everydealt_k09_whole_stages_cut_and_pipe
abbrev hk : PySem.W.Hook := hookL 5 fas dfs exq
def ob (s : PySem.W.SharedT) : AlL := obsLG 5 fas dfs exq (HandSHeadRun.getT s)
theorem ob_eq (s : PySem.W.SharedT) : ob s = hk.obs s.abs := obsLG_eq (HandSHeadRun.getT_eq s)
theorem run (w : World) : HandSHeadRun.RunEq RR (PySem.W.view RR.prog [58]) hk ob 20000 loose w := by
  intro os
  kernel_rfl
end K09

set_option Elab.async false
set_option linter.all false
set_option maxRecDepth 100000
set_option maxHeartbeats 0
set_option autoImplicit false

open PySem PySem.W PySem.Calls PyProof.Rows
theorem PySem.Challenge.cw_everydealt_k09_whole_stages_cut_and_pipe_holds : PySem.Challenge.rw_everydealt_k09_whole_stages_cut_and_pipe.Holds := by
  w_on; o_law
  refine HandSHeadRun.head_any (r := OpenLaw.row PySem.Challenge.rw_everydealt_k09_whole_stages_cut_and_pipe) (q := view (OpenLaw.row PySem.Challenge.rw_everydealt_k09_whole_stages_cut_and_pipe).prog [58]) (H := K09.hk) (ob := K09.ob) (M := 20000) (loose := K09.loose) (d := HandSHeadRun.topDef (OpenLaw.row PySem.Challenge.rw_everydealt_k09_whole_stages_cut_and_pipe).prog 58) (kwd := []) K09.ob_eq
    (by kernel_rfl) (fun s => by kernel_rfl) K09.run (by kernel_rfl) (by kernel_rfl) (by kernel_rfl) (by rfl) (by first | assumption | decide +kernel) (by decide +kernel) ⟨rfl, rfl, rfl, rfl, rfl, by decide +kernel⟩ ?hw ?hc
  case hw => w_witness2
  case hc =>
    refine FL.walk_ofEB (l := PySem.Challenge.rw_everydealt_k09_whole_stages_cut_and_pipe) (n := 63) (k := 44) (x := "script") (CX := fun w => L2.CX (PySem.Challenge.rw_everydealt_k09_whole_stages_cut_and_pipe).prog w) rfl (by decide) (by kernel_rfl) ⟨rfl, by decide, by decide⟩ ?F (fun w H s e s' h => FL.cx_false _ w H s e s' h)
    intro w mg fa h Y G hmg0
    obtain ⟨K, KX, c⟩ := Y
    have hmg : mg ("law" : PySem.Str) = some (.ref fa) := by
      have e : (HandSHeadRun.topDef (OpenLaw.row PySem.Challenge.rw_everydealt_k09_whole_stages_cut_and_pipe).prog 58).name = ("law" : PySem.Str) := by kernel_rfl
      rw [← e]
      exact hmg0
    obtain ⟨E⟩ := K09.ev_of KX G c
    have ef := hmg.symm.trans E.g_law
    cases ef
    exact ⟨K, E.fd_law, FL.spF K 1 K09.F_law, KX, (fun s v => L2.FunD.bindsA (ps := ["script"]) E.D_law (fun _ _ _ _ _ _ us hl => match us, hl with | [_], _ => rfl) s [v] rfl), fun H a ns hl hb hO hS => FL.law_sp (K09.law_true ns hl hb) hO hS, fun base _ _ => K09.ok_law E⟩

