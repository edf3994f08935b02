import PyProof.Rows.All
import Wide.All
import OpenK.AllK
import Wide.FinOn
import PySem.Challenge.RW_xm0122_01
open PySem PySem.W PyProof.Rows
set_option Elab.async false

section
set_option autoImplicit false
set_option Elab.async false
namespace Mine

/-- values of the small interpreter: trees for what is never changed again, loc for an object of the store -/
inductive V where
  | none
  | bool (b : Bool)
  | int (i : Int)
  | tup (xs : List V)
  | lst (xs : List V)
  | dct (es : List (List Int × V))
  | rng (a b c : Int)
  | loc (n : Nat)
deriving Inhabited

inductive SO where
  | list (xs : List V)
  | dict (es : List (List Int × V))

abbrev Sto := List (Option SO)
abbrev Rho := List (Nat × V)

noncomputable def V.isLoc : V → Bool
  | .loc _ => true
  | _ => false

noncomputable def lk : Rho → Nat → Option V
  | [], _ => Option.none
  | (j, v) :: r, i => match Nat.beq j i with
    | true => some v
    | false => lk r i
noncomputable def put (i : Nat) (v : V) : Rho → Rho
  | [] => [(i, v)]
  | (j, u) :: r => match Nat.beq j i with
    | true => (i, v) :: r
    | false => (j, u) :: put i v r

theorem lk_put (ρ : Rho) (i j : Nat) (v : V) : lk (put i v ρ) j = if i = j then some v else lk ρ j := by
  induction ρ with
  | nil =>
    simp only [put, lk]
    by_cases h : i = j
    · subst h; rw [Nat.beq_refl]; simp
    · rw [PySem.W.S.beq_off h, if_neg h]
  | cons p r ih =>
    obtain ⟨k, u⟩ := p
    simp only [put]
    by_cases h : k = i
    · subst h
      rw [Nat.beq_refl]
      simp only [lk]
      by_cases hj : k = j
      · subst hj; rw [Nat.beq_refl]; simp
      · rw [PySem.W.S.beq_off hj, if_neg hj]
    · rw [PySem.W.S.beq_off h]
      simp only [lk]
      by_cases hj : k = j
      · subst hj; rw [Nat.beq_refl, if_neg (Ne.symm h)]
      · rw [PySem.W.S.beq_off hj]; exact ih

abbrev TK (prog : Program) (w : World) : HeapKind prog w (List Int) := tupleKind (intKind prog w)

section
variable (prog : Program) (w : World)

/-- what the heap says of a value that is never changed again; X: the addresses that may change -/
inductive RF (h : Heap) (X : List Addr) : Value → V → Prop
  | none : RF h X .none .none
  | bool (b : Bool) : RF h X (.bool b) (.bool b)
  | int (i : Int) (t : Tok) : RF h X (.int i t) (.int i)
  | tup {a : Addr} {vs : List Value} {xs : List V} : h.IsTuple a vs.toArray → a ∉ X → vs.length = xs.length →
      (∀ (i : Nat) (v : Value) (x : V), vs[i]? = some v → xs[i]? = some x → RF h X v x) → RF h X (.ref a) (.tup xs)
  | lst {a : Addr} {vs : List Value} {xs : List V} : h.PlainList a vs.toArray → a ∉ X → vs.length = xs.length →
      (∀ (i : Nat) (v : Value) (x : V), vs[i]? = some v → xs[i]? = some x → RF h X v x) → RF h X (.ref a) (.lst xs)
  | dct {a : Addr} {ys : List (List Int × Addr × Value)} {es : List (List Int × V)} : h.DictOfH (TK prog w) a ys → a ∉ X → (a == sysModules) = false →
      (∀ y ∈ ys, y.2.1 ∉ X) → ys.map (·.1) = es.map (·.1) →
      (∀ (i : Nat) (y : List Int × Addr × Value) (e : List Int × V), ys[i]? = some y → es[i]? = some e → RF h X y.2.2 e.2) → RF h X (.ref a) (.dct es)
  | rng {r : Addr} {a b c : Int} {t u v : Tok} : IsRange h r a b c t u v → r ∉ X → RF h X (.ref r) (.rng a b c)

/-- the same for any value: a place of the store is an address of the list μ -/
noncomputable def RV (h : Heap) (X : List Addr) (μ : List Addr) (v : Value) (x : V) : Prop :=
  match x with
  | .loc n => ∃ a, v = .ref a ∧ μ[n]? = some a
  | x => RF prog w h X v x

inductive RO (h : Heap) (X : List Addr) (μ : List Addr) (a : Addr) : SO → Prop
  | list {vs : List Value} {xs : List V} : h.PlainList a vs.toArray → vs.length = xs.length →
      (∀ (i : Nat) (v : Value) (x : V), vs[i]? = some v → xs[i]? = some x → RV prog w h X μ v x) → RO h X μ a (.list xs)
  | dict {ys : List (List Int × Addr × Value)} {es : List (List Int × V)} : h.DictOfH (TK prog w) a ys → (a == sysModules) = false →
      (∀ y ∈ ys, y.2.1 ∉ X) → ys.map (·.1) = es.map (·.1) →
      (∀ (i : Nat) (y : List Int × Addr × Value) (e : List Int × V), ys[i]? = some y → es[i]? = some e → RF prog w h X y.2.2 e.2) → RO h X μ a (.dict es)
end

/-- a place of the store that is in use -/
noncomputable def Live (μ : List Addr) (σ : Sto) (a : Addr) : Prop := ∃ (n : Nat) (o : SO), μ[n]? = some a ∧ σ[n]? = some (some o)

structure SR (prog : Program) (w : World) (h : Heap) (X : List Addr) (μ : List Addr) (σ : Sto) : Prop where
  len : μ.length = σ.length
  nodup : μ.Nodup
  there : ∀ a ∈ μ, (h.get? a).isSome
  inX : ∀ a, Live μ σ a → a ∈ X
  obj : ∀ (n : Nat) (a : Addr) (o : SO), μ[n]? = some a → σ[n]? = some (some o) → RO prog w h X μ a o

noncomputable def Loc (env : Env) (x : Str) : Prop := env.kindOf x = some .local ∨ env.kindOf x = some .cell ∨ env.kindOf x = some .free

noncomputable def VarIs (env : Env) (h : Heap) (x : Str) (v : Value) : Prop :=
  (env.kindOf x = some .local ∧ ∃ m, h.Ns env.locals m ∧ m x = some v) ∨
  ((env.kindOf x = some .cell ∨ env.kindOf x = some .free) ∧ ∃ c, env.cells.lookup x = some c ∧ h.IsCell c (some v))

/-- the facts that stay through the whole call -/
structure Cx where
  prog : Program
  w : World
  base : Heap
  mg : Str → Option Value
  mb : Str → Option Value
  tab : List Str

structure Cx.Ok (C : Cx) : Prop where
  g : C.base.Ns mainGlobals C.mg
  b : C.base.Ns builtinsNs C.mb
  nolimit : C.base.NoLimit
  builtins : ∀ x : Str, x ≠ Str.ofString "__name__" → C.mb x = bootBuiltins x
  sysm : (C.base.get? sysModules).isSome
  nodup : C.tab.Nodup

structure EnvOk (env : Env) (h : Heap) (X : List Addr) (P : Addr → Prop) : Prop where
  kind : env.scope.kind = .function
  glob : env.globals = mainGlobals
  blt : env.builtins = builtinsNs
  locals : ∃ m, h.Ns env.locals m
  locX : env.locals ∈ X
  hasCell : ∀ x, (env.kindOf x = some .cell ∨ env.kindOf x = some .free) → ∃ c, env.cells.lookup x = some c
  cell : ∀ x c, env.cells.lookup x = some c → c ∈ X ∧ c ≠ env.locals ∧ (∃ v, h.IsCell c v) ∧ ¬ P c
  inj : ∀ x y c, env.cells.lookup x = some c → env.cells.lookup y = some c → x = y
  locP : ¬ P env.locals

noncomputable def ER (C : Cx) (env : Env) (h : Heap) (X μ : List Addr) (ρ : Rho) : Prop :=
  ∀ (i : Nat) (x : Str) (u : V), C.tab[i]? = some x → lk ρ i = some u → Loc env x → ∃ v, VarIs env h x v ∧ RV C.prog C.w h X μ v u

structure St (C : Cx) (env : Env) (h : Heap) (X μ : List Addr) (ρ : Rho) (σ : Sto) : Prop where
  keep : ∀ b o, C.base.get? b = some o → h.get? b = some o
  new : ∀ a ∈ X, C.base.get? a = none
  there : ∀ a ∈ X, (h.get? a).isSome
  envOk : EnvOk env h X (Live μ σ)
  vars : ER C env h X μ ρ
  sto : SR C.prog C.w h X μ σ

/-- what a piece of work leaves as it was: M, the addresses that it may change -/
structure Adv (M : Addr → Prop) (h : Heap) (X : List Addr) (h' : Heap) (X' : List Addr) : Prop where
  keep : ∀ a o, ¬ M a → h.get? a = some o → h'.get? a = some o
  there : ∀ a, (h.get? a).isSome → (h'.get? a).isSome
  new : ∀ a ∈ X', a ∈ X ∨ h.get? a = none

noncomputable def ARoom (A : Around) (dp : Nat) : Prop := A.handled = none ∧ A.depth + dp + 1 < recursionLimit ∧ A.units + 4 * dp + 140 < cLine

section
variable {prog : Program} {w : World} {h h' : Heap} {X X' μ : List Addr}

theorem tupleKey_at {ks : List Int} {a : Addr} (x : (TK prog w).is h ks a) (k : ∀ o, h.get? a = some o → h'.get? a = some o) : (TK prog w).is h' ks a := by
  obtain ⟨o, its, n, e, r⟩ := x
  exact ⟨o, its, n, k o e, r⟩
theorem dictOfH_at {a : Addr} {ys : List (List Int × Addr × Value)} (x : h.DictOfH (TK prog w) a ys) (k : ∀ o, h.get? a = some o → h'.get? a = some o)
    (ky : ∀ y ∈ ys, ∀ o, h.get? y.2.1 = some o → h'.get? y.2.1 = some o) : h'.DictOfH (TK prog w) a ys := by
  obtain ⟨o, es, ep, e, r1, r2, r3, r4, r5⟩ := x
  exact ⟨o, es, ep, k o e, r1, r2, r3, fun y hy => tupleKey_at (r4 y hy) (ky y hy), r5⟩

/-- what is not in X stays, and does not come into X' -/
noncomputable def Stay (h : Heap) (X : List Addr) (h' : Heap) (X' : List Addr) : Prop := ∀ a o, a ∉ X → h.get? a = some o → h'.get? a = some o ∧ a ∉ X'

theorem tupleKey_there {ks : List Int} {a : Addr} (x : (TK prog w).is h ks a) : ∃ o, h.get? a = some o := by
  obtain ⟨o, its, n, e, r⟩ := x
  exact ⟨o, e⟩
theorem dictOfH_stay {a : Addr} {ys : List (List Int × Addr × Value)} (k : Stay h X h' X') (x : h.DictOfH (TK prog w) a ys) (ha : ∀ o, h.get? a = some o → h'.get? a = some o) (hy : ∀ y ∈ ys, y.2.1 ∉ X) :
    h'.DictOfH (TK prog w) a ys ∧ ∀ y ∈ ys, y.2.1 ∉ X' := by
  refine ⟨dictOfH_at x ha (fun y m o e => (k _ o (hy y m) e).1), fun y m => ?_⟩
  obtain ⟨o, es, ep, e, r1, r2, r3, r4, r5⟩ := x
  obtain ⟨o', e'⟩ := tupleKey_there (r4 y m)
  exact (k _ o' (hy y m) e').2

theorem RF.stay {v : Value} {x : V} (k : Stay h X h' X') (r : RF prog w h X v x) : RF prog w h' X' v x := by
  induction r with
  | none => exact .none
  | bool b => exact .bool b
  | int i t => exact .int i t
  | @tup a vs xs hl ha hn _ ih =>
    obtain ⟨o, e, r⟩ := hl
    obtain ⟨e', ha'⟩ := k a o ha e
    exact .tup ⟨o, e', r⟩ ha' hn ih
  | @lst a vs xs hl ha hn _ ih =>
    obtain ⟨n, e⟩ := hl
    obtain ⟨e', ha'⟩ := k a _ ha e
    exact .lst ⟨n, e'⟩ ha' hn ih
  | @dct a ys es hd ha hs hy hk _ ih =>
    obtain ⟨o, es', ep, e, r⟩ := id hd
    obtain ⟨e', ha'⟩ := k a o ha e
    obtain ⟨hd', hy'⟩ := dictOfH_stay k hd (fun o e => (k a o ha e).1) hy
    exact .dct hd' ha' hs hy' hk ih
  | @rng r a b c t u v hr hn =>
    obtain ⟨e', ha'⟩ := k r _ hn hr
    exact .rng e' ha'

theorem RV.stay {v : Value} {x : V} {ν : List Addr} (k : Stay h X h' X') (r : RV prog w h X μ v x) : RV prog w h' X' (μ ++ ν) v x := by
  cases x with
  | loc n =>
    obtain ⟨a, e, g⟩ := r
    exact ⟨a, e, by rw [List.getElem?_append_left (List.getElem?_eq_some_iff.mp g).1]; exact g⟩
  | _ => exact RF.stay k r
theorem RV.stay0 {v : Value} {x : V} (k : Stay h X h' X') (r : RV prog w h X μ v x) : RV prog w h' X' μ v x := by
  have := RV.stay (ν := []) k r
  rwa [List.append_nil] at this
theorem RV.toRF {v : Value} {x : V} (r : RV prog w h X μ v x) (hx : x.isLoc = false) : RF prog w h X v x := by
  cases x with
  | loc n => cases hx
  | _ => exact r
theorem RF.toRV {v : Value} {x : V} (r : RF prog w h X v x) : RV prog w h X μ v x := by
  cases x with
  | loc n => cases r
  | _ => exact r
theorem RF.notLoc {v : Value} {x : V} (r : RF prog w h X v x) : x.isLoc = false := by cases r <;> rfl

theorem Stay.of_keeps (k : ∀ a o, h.get? a = some o → h'.get? a = some o) : Stay h X h' X := fun a o n e => ⟨k a o e, n⟩

theorem RO.stay {a : Addr} {o : SO} {ν : List Addr} (k : Stay h X h' X') (ka : ∀ o, h.get? a = some o → h'.get? a = some o) (r : RO prog w h X μ a o) : RO prog w h' X' (μ ++ ν) a o := by
  cases r with
  | list hl hn hi =>
    obtain ⟨n, e⟩ := hl
    exact .list ⟨n, ka _ e⟩ hn fun i v x e1 e2 => (hi i v x e1 e2).stay k
  | dict hd hs hy hk hi =>
    obtain ⟨hd', hy'⟩ := dictOfH_stay k hd ka hy
    exact .dict hd' hs hy' hk fun i y e e1 e2 => (hi i y e e1 e2).stay k
theorem RO.stay0 {a : Addr} {o : SO} (k : Stay h X h' X') (ka : ∀ o, h.get? a = some o → h'.get? a = some o) (r : RO prog w h X μ a o) : RO prog w h' X' μ a o := by
  have := RO.stay (ν := []) k ka r
  rwa [List.append_nil] at this

theorem SR.keeps {σ : Sto} (k : ∀ a o, h.get? a = some o → h'.get? a = some o) (r : SR prog w h X μ σ) : SR prog w h' X μ σ where
  len := r.len
  nodup := r.nodup
  there := fun a m => by
    obtain ⟨o, e⟩ := Option.isSome_iff_exists.mp (r.there a m)
    rw [k a o e]; rfl
  inX := r.inX
  obj := fun n a o e1 e2 => (r.obj n a o e1 e2).stay0 (Stay.of_keeps k) (fun o e => k _ o e)
end

section
variable {C : Cx} {env : Env} {h h' h'' : Heap} {X X' X'' μ μ' μ'' : List Addr} {ρ ρ' ρ'' : Rho} {σ σ' σ'' : Sto}

theorem VarIs.keeps {x : Str} {v : Value} (k : ∀ a o, h.get? a = some o → h'.get? a = some o) (r : VarIs env h x v) : VarIs env h' x v := by
  rcases r with ⟨e, m, hn, hv⟩ | ⟨e, c, hc, hv⟩
  · exact .inl ⟨e, m, hn.keeps k, hv⟩
  · exact .inr ⟨e, c, hc, hv.keeps k⟩
theorem EnvOk.keeps {P : Addr → Prop} (k : ∀ a o, h.get? a = some o → h'.get? a = some o) (r : EnvOk env h X P) : EnvOk env h' X P :=
  { r with locals := let ⟨m, hm⟩ := r.locals; ⟨m, hm.keeps k⟩
           cell := fun x c e => let ⟨a, b, ⟨v, hv⟩, d⟩ := r.cell x c e; ⟨a, b, ⟨v, hv.keeps k⟩, d⟩ }
theorem St.keeps (k : ∀ a o, h.get? a = some o → h'.get? a = some o) (r : St C env h X μ ρ σ) : St C env h' X μ ρ σ where
  keep := fun b o e => k b o (r.keep b o e)
  new := r.new
  there := fun a m => by
    obtain ⟨o, e⟩ := Option.isSome_iff_exists.mp (r.there a m)
    rw [k a o e]; rfl
  envOk := r.envOk.keeps k
  vars := fun i x u e1 e2 hl => let ⟨v, hv, hr⟩ := r.vars i x u e1 e2 hl; ⟨v, hv.keeps k, hr.stay0 (Stay.of_keeps k)⟩
  sto := r.sto.keeps k

theorem Adv.refl (M : Addr → Prop) (h : Heap) (X : List Addr) : Adv M h X h X := ⟨fun _ _ _ e => e, fun _ e => e, fun _ m => .inl m⟩
theorem isSome_of_keeps (k : ∀ a o, h.get? a = some o → h'.get? a = some o) {a : Addr} (e : (h.get? a).isSome) : (h'.get? a).isSome := by
  obtain ⟨o, e⟩ := Option.isSome_iff_exists.mp e
  rw [k a o e]; rfl
theorem Adv.of_keeps {M : Addr → Prop} (k : ∀ a o, h.get? a = some o → h'.get? a = some o) : Adv M h X h' X :=
  ⟨fun a o _ e => k a o e, fun _ e => isSome_of_keeps k e, fun _ m => .inl m⟩
theorem none_back {a : Addr} (t : ∀ a, (h.get? a).isSome → (h'.get? a).isSome) (e : h'.get? a = none) : h.get? a = none := by
  cases q : h.get? a with
  | none => rfl
  | some o => have := t a (by rw [q]; rfl); rw [e] at this; cases this
theorem Adv.trans {M M' : Addr → Prop} (x : Adv M h X h' X') (y : Adv M' h' X' h'' X'') (hm : ∀ a, M' a → M a ∨ h.get? a = none) : Adv M h X h'' X'' where
  keep := fun a o n e => y.keep a o (fun q => (hm a q).elim n (fun q => by rw [e] at q; cases q)) (x.keep a o n e)
  there := fun a e => y.there a (x.there a e)
  new := fun a m => (y.new a m).elim (x.new a) fun e => .inr (none_back x.there e)
theorem Adv.weaken {M M' : Addr → Prop} (x : Adv M h X h' X') (hm : ∀ a, M a → M' a) : Adv M' h X h' X' :=
  ⟨fun a o n e => x.keep a o (fun q => n (hm a q)) e, x.there, x.new⟩

/-- the end of a piece of work that binds no name -/
structure Post (C : Cx) (env : Env) (ρ : Rho) (h : Heap) (X μ : List Addr) (σ : Sto) (h' : Heap) (X' μ' : List Addr) (σ' : Sto) : Prop where
  st : St C env h' X' μ' ρ σ'
  adv : Adv (Live μ σ) h X h' X'
  ext : ∃ ν, μ' = μ ++ ν ∧ ∀ a ∈ ν, h.get? a = none
  live : ∀ a, Live μ' σ' a → Live μ σ a ∨ h.get? a = none
  sub : ∀ a ∈ X, (h.get? a).isSome → ¬ Live μ σ a → a ∈ X'

theorem Post.refl (s : St C env h X μ ρ σ) : Post C env ρ h X μ σ h X μ σ := ⟨s, Adv.refl _ _ _, ⟨[], by simp, fun _ m => nomatch m⟩, fun _ l => .inl l, fun _ m _ _ => m⟩
theorem Post.of_keeps (s : St C env h X μ ρ σ) (k : ∀ a o, h.get? a = some o → h'.get? a = some o) : Post C env ρ h X μ σ h' X μ σ :=
  ⟨s.keeps k, Adv.of_keeps k, ⟨[], by simp, fun _ m => nomatch m⟩, fun _ l => .inl l, fun _ m _ _ => m⟩
theorem Post.trans (x : Post C env ρ h X μ σ h' X' μ' σ') (y : Post C env ρ h' X' μ' σ' h'' X'' μ'' σ'') : Post C env ρ h X μ σ h'' X'' μ'' σ'' where
  st := y.st
  adv := x.adv.trans y.adv x.live
  ext := by
    obtain ⟨ν, e, f⟩ := x.ext
    obtain ⟨ν', e', f'⟩ := y.ext
    refine ⟨ν ++ ν', by rw [e', e, List.append_assoc], fun a m => ?_⟩
    rcases List.mem_append.mp m with m | m
    · exact f a m
    · exact none_back x.adv.there (f' a m)
  live := fun a l => (y.live a l).elim (x.live a) fun e => .inr (none_back x.adv.there e)
  sub := fun a m e n => y.sub a (x.sub a m e n) (x.adv.there a e) fun l => (x.live a l).elim n fun q => by rw [q] at e; cases e
theorem Post.stay (s : St C env h X μ ρ σ) (x : Post C env ρ h X μ σ h' X' μ' σ') : Stay h X h' X' := fun a o n e =>
  ⟨x.adv.keep a o (fun l => n (s.sto.inX a l)) e, fun m => (x.adv.new a m).elim n fun q => by rw [e] at q; cases q⟩
theorem Post.rv {v : Value} {u : V} (s : St C env h X μ ρ σ) (x : Post C env ρ h X μ σ h' X' μ' σ') (r : RV C.prog C.w h X μ v u) : RV C.prog C.w h' X' μ' v u := by
  obtain ⟨ν, e, _⟩ := x.ext
  rw [e]
  exact r.stay (x.stay s)
end

abbrev DE := Rho → Sto → Option (V × Sto)

/-- the expression e, in a frame of the scope sc, gives what d says -/
noncomputable def SE (C : Cx) (dp : Nat) (sc : Scope) (e : Expr) (d : DE) : Prop :=
  ∀ (A : Around) (env : Env) (s : Shared) (X μ : List Addr) (ρ : Rho) (σ : Sto) (u : V) (σ' : Sto) (Q : Value → Shared → Prop) (E : Value → Shared → Prop),
    env.scope = sc → ARoom A dp → St C env s.heap X μ ρ σ → d ρ σ = some (u, σ') →
    (∀ v h' tk X' μ', Post C env ρ s.heap X μ σ h' X' μ' σ' → RV C.prog C.w h' X' μ' v u → Q v { s with heap := h', toks := tk }) →
    wpAny (model C.prog C.w) A (eval e env) Q E s

/-- several expressions, one after the other -/
abbrev DL := Rho → Sto → Option (List V × Sto)
noncomputable def RVs (C : Cx) (h : Heap) (X μ : List Addr) (vs : List Value) (us : List V) : Prop :=
  vs.length = us.length ∧ ∀ (i : Nat) (v : Value) (u : V), vs[i]? = some v → us[i]? = some u → RV C.prog C.w h X μ v u
noncomputable def SL (C : Cx) (dp : Nat) (sc : Scope) (es : List Expr) (d : DL) : Prop :=
  ∀ (A : Around) (env : Env) (s : Shared) (X μ : List Addr) (ρ : Rho) (σ : Sto) (us : List V) (σ' : Sto) (pos : Pos) (Q : List Value → Shared → Prop) (E : Value → Shared → Prop),
    env.scope = sc → ARoom A dp → St C env s.heap X μ ρ σ → d ρ σ = some (us, σ') →
    (∀ vs h' tk X' μ', Post C env ρ s.heap X μ σ h' X' μ' σ' → RVs C h' X' μ' vs us → Q vs { s with heap := h', toks := tk }) →
    wpAny (model C.prog C.w) A (spliced (backTo pos (starEach es env))) Q E s

end Mine
end

section
set_option autoImplicit false
set_option Elab.async false
set_option maxRecDepth 100000
namespace Mine

/-- the heap's facts that a built-in needs -/
structure Hp (C : Cx) (A : Around) (h : Heap) (X μ : List Addr) (σ : Sto) : Prop where
  handled : A.handled = none
  units : A.units + 100 < cLine
  keep : ∀ b o, C.base.get? b = some o → h.get? b = some o
  there : ∀ a ∈ X, (h.get? a).isSome
  sto : SR C.prog C.w h X μ σ

theorem St.hp {C : Cx} {A : Around} {dp : Nat} {env : Env} {h : Heap} {X μ : List Addr} {ρ : Rho} {σ : Sto} (s : St C env h X μ ρ σ) (r : ARoom A dp) : Hp C A h X μ σ :=
  ⟨r.1, by have := r.2.2; omega, s.keep, s.there, s.sto⟩

theorem get?_size (h : Heap) : h.get? h.objs.size = none := by
  cases e : h.get? h.objs.size with
  | none => rfl
  | some o => exact absurd (Heap.lt_size e) (Nat.lt_irrefl _)
theorem new_notin {h : Heap} {X : List Addr} {a : Addr} (t : ∀ a ∈ X, (h.get? a).isSome) (n : h.get? a = none) : a ∉ X := fun m => by
  have := t a m
  rw [n] at this
  cases this

noncomputable def RFs (C : Cx) (h : Heap) (X : List Addr) (vs : List Value) (xs : List V) : Prop :=
  vs.length = xs.length ∧ ∀ (i : Nat) (v : Value) (x : V), vs[i]? = some v → xs[i]? = some x → RF C.prog C.w h X v x

section
variable {C : Cx} {h h' : Heap} {X μ : List Addr}

theorem RFs.nil : RFs C h X [] [] := ⟨rfl, fun i v x e => by simp at e⟩
theorem RFs.cons {v : Value} {x : V} {vs : List Value} {xs : List V} (r : RF C.prog C.w h X v x) (rs : RFs C h X vs xs) : RFs C h X (v :: vs) (x :: xs) :=
  ⟨by rw [List.length_cons, List.length_cons, rs.1], fun i v' x' e e' => by
    cases i with
    | zero => simp only [List.getElem?_cons_zero, Option.some.injEq] at e e'; subst e; subst e'; exact r
    | succ i => simp only [List.getElem?_cons_succ] at e e'; exact rs.2 i v' x' e e'⟩
theorem RFs.append {vs ws : List Value} {xs ys : List V} (r : RFs C h X vs xs) (q : RFs C h X ws ys) : RFs C h X (vs ++ ws) (xs ++ ys) := by
  refine ⟨by rw [List.length_append, List.length_append, r.1, q.1], fun i v x e e' => ?_⟩
  by_cases c : i < vs.length
  · rw [List.getElem?_append_left c] at e
    rw [List.getElem?_append_left (r.1 ▸ c)] at e'
    exact r.2 i v x e e'
  · rw [List.getElem?_append_right (Nat.not_lt.mp c)] at e
    rw [List.getElem?_append_right (r.1 ▸ Nat.not_lt.mp c), ← r.1] at e'
    exact q.2 _ v x e e'
theorem RFs.stay {vs : List Value} {xs : List V} {X' : List Addr} (k : Stay h X h' X') (r : RFs C h X vs xs) : RFs C h' X' vs xs := ⟨r.1, fun i v x e e' => (r.2 i v x e e').stay k⟩
theorem RFs.uncons {vs : List Value} {x : V} {xs : List V} (r : RFs C h X vs (x :: xs)) : ∃ v ws, vs = v :: ws ∧ RF C.prog C.w h X v x ∧ RFs C h X ws xs := by
  obtain ⟨n, r⟩ := r
  cases vs with
  | nil => simp at n
  | cons v ws =>
    refine ⟨v, ws, rfl, r 0 v x rfl rfl, by simpa using n, fun i v' x' e e' => r (i + 1) v' x' (by simpa using e) (by simpa using e')⟩
theorem RFs.unnil {vs : List Value} (r : RFs C h X vs []) : vs = [] := List.length_eq_zero_iff.mp r.1
theorem RFs.length {vs : List Value} {xs : List V} (r : RFs C h X vs xs) : vs.length = xs.length := r.1

theorem RV.int {v : Value} {i : Int} (r : RV C.prog C.w h X μ v (.int i)) : ∃ t, v = .int i t := by
  cases r; exact ⟨_, rfl⟩
theorem RV.bool {v : Value} {b : Bool} (r : RV C.prog C.w h X μ v (.bool b)) : v = .bool b := by
  cases r; rfl
theorem RV.invNone {v : Value} (r : RV C.prog C.w h X μ v .none) : v = .none := by
  cases r; rfl
theorem RV.lst {v : Value} {xs : List V} (r : RV C.prog C.w h X μ v (.lst xs)) : ∃ a vs, v = .ref a ∧ h.PlainList a vs.toArray ∧ a ∉ X ∧ RFs C h X vs xs := by
  cases r with
  | lst hl ha hn hi => exact ⟨_, _, rfl, hl, ha, hn, hi⟩
theorem RV.tup {v : Value} {xs : List V} (r : RV C.prog C.w h X μ v (.tup xs)) : ∃ a vs, v = .ref a ∧ h.IsTuple a vs.toArray ∧ a ∉ X ∧ RFs C h X vs xs := by
  cases r with
  | tup hl ha hn hi => exact ⟨_, _, rfl, hl, ha, hn, hi⟩
theorem RV.mkInt {i : Int} {t : Tok} : RV C.prog C.w h X μ (.int i t) (.int i) := RF.int i t
theorem RV.mkBool {b : Bool} : RV C.prog C.w h X μ (.bool b) (.bool b) := RF.bool b
theorem RV.mkNone : RV C.prog C.w h X μ .none .none := RF.none

theorem RV.newLst {a : Addr} {vs : List Value} {xs : List V} (k : ∀ b o, h.get? b = some o → h'.get? b = some o) (t : ∀ a ∈ X, (h.get? a).isSome) (n : h.get? a = none)
    (hl : h'.PlainList a vs.toArray) (r : RFs C h X vs xs) : RV C.prog C.w h' X μ (.ref a) (.lst xs) :=
  RF.lst hl (new_notin t n) r.1 fun i v x e e' => (r.2 i v x e e').stay (Stay.of_keeps k)
theorem RV.newTup {a : Addr} {vs : List Value} {xs : List V} (k : ∀ b o, h.get? b = some o → h'.get? b = some o) (t : ∀ a ∈ X, (h.get? a).isSome) (n : h.get? a = none)
    (hl : h'.IsTuple a vs.toArray) (r : RFs C h X vs xs) : RV C.prog C.w h' X μ (.ref a) (.tup xs) :=
  RF.tup hl (new_notin t n) r.1 fun i v x e e' => (r.2 i v x e e').stay (Stay.of_keeps k)
theorem push_keeps (h : Heap) (o : Obj) : ∀ b o', h.get? b = some o' → (h.push o).get? b = some o' := fun _ _ e => Heap.get?_push_of_some o e
end

/-- a built-in piece of one value: it changes nothing that stands -/
noncomputable def Op1 (C : Cx) (t : Value → Sem Value) (f : V → Sto → Option V) : Prop :=
  ∀ (A : Around) (s : Shared) (X μ : List Addr) (σ : Sto) (v : Value) (u r : V) (Q : Value → Shared → Prop) (E : Value → Shared → Prop),
    Hp C A s.heap X μ σ → RV C.prog C.w s.heap X μ v u → f u σ = some r →
    (∀ v' h' tk, (∀ b o, s.heap.get? b = some o → h'.get? b = some o) → RV C.prog C.w h' X μ v' r → Q v' { s with heap := h', toks := tk }) →
    wpAny (model C.prog C.w) A (t v) Q E s
noncomputable def Op2 (C : Cx) (t : Value → Value → Sem Value) (f : V → V → Sto → Option V) : Prop :=
  ∀ (A : Around) (s : Shared) (X μ : List Addr) (σ : Sto) (v w : Value) (u x r : V) (Q : Value → Shared → Prop) (E : Value → Shared → Prop),
    Hp C A s.heap X μ σ → RV C.prog C.w s.heap X μ v u → RV C.prog C.w s.heap X μ w x → f u x σ = some r →
    (∀ v' h' tk, (∀ b o, s.heap.get? b = some o → h'.get? b = some o) → RV C.prog C.w h' X μ v' r → Q v' { s with heap := h', toks := tk }) →
    wpAny (model C.prog C.w) A (t v w) Q E s
noncomputable def OpN (C : Cx) (t : List Value → Sem Value) (f : List V → Sto → Option V) : Prop :=
  ∀ (A : Around) (s : Shared) (X μ : List Addr) (σ : Sto) (vs : List Value) (us : List V) (r : V) (Q : Value → Shared → Prop) (E : Value → Shared → Prop),
    Hp C A s.heap X μ σ → RVs C s.heap X μ vs us → f us σ = some r →
    (∀ v' h' tk, (∀ b o, s.heap.get? b = some o → h'.get? b = some o) → RV C.prog C.w h' X μ v' r → Q v' { s with heap := h', toks := tk }) →
    wpAny (model C.prog C.w) A (t vs) Q E s

section
variable {C : Cx} {h h' : Heap} {X μ : List Addr}
theorem RVs.nil : RVs C h X μ [] [] := ⟨rfl, fun i v x e => by simp at e⟩
theorem RVs.cons {v : Value} {x : V} {vs : List Value} {xs : List V} (r : RV C.prog C.w h X μ v x) (rs : RVs C h X μ vs xs) : RVs C h X μ (v :: vs) (x :: xs) :=
  ⟨by rw [List.length_cons, List.length_cons, rs.1], fun i v' x' e e' => by
    cases i with
    | zero => simp only [List.getElem?_cons_zero, Option.some.injEq] at e e'; subst e; subst e'; exact r
    | succ i => simp only [List.getElem?_cons_succ] at e e'; exact rs.2 i v' x' e e'⟩
theorem RVs.uncons {vs : List Value} {x : V} {xs : List V} (r : RVs C h X μ vs (x :: xs)) : ∃ v ws, vs = v :: ws ∧ RV C.prog C.w h X μ v x ∧ RVs C h X μ ws xs := by
  obtain ⟨n, r⟩ := r
  cases vs with
  | nil => simp at n
  | cons v ws =>
    refine ⟨v, ws, rfl, r 0 v x rfl rfl, by simpa using n, fun i v' x' e e' => r (i + 1) v' x' (by simpa using e) (by simpa using e')⟩
theorem RVs.unnil {vs : List Value} (r : RVs C h X μ vs []) : vs = [] := List.length_eq_zero_iff.mp r.1
noncomputable def noLocs : List V → Bool
  | [] => true
  | x :: xs => match x.isLoc with
    | true => false
    | false => noLocs xs
theorem noLocs_get : ∀ {xs : List V}, noLocs xs = true → ∀ (i : Nat) (x : V), xs[i]? = some x → x.isLoc = false
  | [], _, i, x, e => by simp at e
  | y :: ys, hn, i, x, e => by
    simp only [noLocs] at hn
    cases hy : y.isLoc with
    | true => rw [hy] at hn; cases hn
    | false =>
      rw [hy] at hn
      cases i with
      | zero => simp only [List.getElem?_cons_zero, Option.some.injEq] at e; subst e; exact hy
      | succ i => exact noLocs_get hn i x (by simpa using e)
theorem RVs.toRFs {vs : List Value} {xs : List V} (r : RVs C h X μ vs xs) (hn : noLocs xs = true) : RFs C h X vs xs :=
  ⟨r.1, fun i v x e e' => (r.2 i v x e e').toRF (noLocs_get hn i x e')⟩
theorem RVs.stay {vs : List Value} {xs : List V} {X' ν : List Addr} (k : Stay h X h' X') (r : RVs C h X μ vs xs) : RVs C h' X' (μ ++ ν) vs xs := ⟨r.1, fun i v x e e' => (r.2 i v x e e').stay k⟩
end

-- pure pieces -------------------------------------------------------------------------------------------------------------------
noncomputable def bigN : Nat := 4611686018427387904
noncomputable def addV : V → V → Sto → Option V
  | .int a, .int b, _ => some (.int (a + b))
  | .lst a, .lst b, _ => match Nat.ble (a.length + b.length) 100000 with
    | true => some (.lst (a ++ b))
    | false => none
  | _, _, _ => none
noncomputable def subV : V → V → Sto → Option V
  | .int a, .int b, _ => some (.int (a - b))
  | _, _, _ => none
noncomputable def repV (xs : List V) : Nat → List V
  | 0 => []
  | n + 1 => xs ++ repV xs n
noncomputable def mulV : V → V → Sto → Option V
  | .int a, .int b, _ => match Nat.ble a.natAbs bigN with
    | true => some (.int (a * b))
    | false => none
  | _, _, _ => none
noncomputable def divV : V → V → Sto → Option V
  | .int a, .int b, _ => match b.natAbs with
    | 0 => none
    | n + 1 => match Nat.ble (n + 1) 1000000000 with
      | true => some (.int (a.fdiv b))
      | false => none
  | _, _, _ => none
noncomputable def modV : V → V → Sto → Option V
  | .int a, .int b, _ => match b.natAbs with
    | 0 => none
    | _ + 1 => some (.int (a.fmod b))
  | _, _, _ => none
noncomputable def negV : V → Sto → Option V
  | .int a, _ => some (.int (-a))
  | _, _ => none

section
variable {C : Cx}

theorem intBits_le {a : Int} (h : a.natAbs ≤ bigN) : Builtin.Int.intBits a ≤ 64 := by
  unfold Builtin.Int.intBits
  split
  · exact Nat.zero_le _
  · rename_i hz
    have hz' : a.natAbs ≠ 0 := fun e => by
      have := Int.natAbs_eq_zero.mp e
      subst this
      exact hz rfl
    have : a.natAbs.log2 < 63 := (Nat.log2_lt hz').mpr (by unfold bigN at h; omega)
    omega

theorem op_add : Op2 C (binaryOp .Add) addV := by
  intro A s X μ σ v w u x r Q E H hv hw hf hQ
  unfold addV at hf
  split at hf
  · obtain ⟨t, rfl⟩ := hv.int
    obtain ⟨t', rfl⟩ := hw.int
    cases hf
    exact PyProof.Rows.add_int (hQ _ _ _ (fun _ _ e => e) .mkInt)
  · rename_i a b _
    obtain ⟨l, vs, rfl, hl, ha, hr⟩ := hv.lst
    obtain ⟨l', ws, rfl, hl', ha', hr'⟩ := hw.lst
    split at hf
    · rename_i hle
      cases hf
      have hle' := Nat.le_of_ble_eq_true hle
      obtain ⟨n, hl⟩ := hl
      obtain ⟨n', hl'⟩ := hl'
      refine concat_meets ⟨_, hl, rfl⟩ ⟨_, hl', rfl⟩ noFill_list_add seq_list_add PySem.F.slot_list_add PySem.F.entry_list_add (PySem.F.args_list_add_2 _ _)
        (list_addW l l' vs.toArray ws.toArray n n' none none #[] #[] ?_) ⟨hl, hl', ?_⟩
      · rw [List.size_toArray, List.size_toArray, hr.1, hr'.1]
        have : sizeLine = 16777216 := rfl
        omega
      · refine hQ _ _ _ (push_keeps _ _) (RV.newLst (push_keeps _ _) H.there (get?_size _) ⟨0, ?_⟩ (hr.append hr'))
        rw [Heap.get?_push_size _ rfl]
        simp
    · cases hf
  · cases hf
theorem op_sub : Op2 C (binaryOp .Sub) subV := by
  intro A s X μ σ v w u x r Q E H hv hw hf hQ
  unfold subV at hf
  split at hf
  · obtain ⟨t, rfl⟩ := hv.int
    obtain ⟨t', rfl⟩ := hw.int
    cases hf
    exact PyProof.Rows.sub_int (hQ _ _ _ (fun _ _ e => e) .mkInt)
  · cases hf
theorem op_mul : Op2 C (binaryOp .Mult) mulV := by
  intro A s X μ σ v w u x r Q E H hv hw hf hQ
  unfold mulV at hf
  split at hf
  · obtain ⟨t, rfl⟩ := hv.int
    obtain ⟨t', rfl⟩ := hw.int
    split at hf
    · rename_i hle
      cases hf
      exact PyProof.Rows.mul_int (hQ _ _ _ (fun _ _ e => e) .mkInt) (IntMulOk.of_left (intBits_le (Nat.le_of_ble_eq_true hle)))
    · cases hf
  · cases hf
theorem op_div : Op2 C (binaryOp .FloorDiv) divV := by
  intro A s X μ σ v w u x r Q E H hv hw hf hQ
  unfold divV at hf
  split at hf
  · rename_i a b _
    obtain ⟨t, rfl⟩ := hv.int
    obtain ⟨t', rfl⟩ := hw.int
    split at hf
    · cases hf
    · rename_i n hn
      split at hf
      · rename_i hle
        cases hf
        have := Nat.le_of_ble_eq_true hle
        exact PyProof.Rows.floordiv_int (by omega) (hQ _ _ _ (fun _ _ e => e) .mkInt) (.inl (PyProof.noPylong_small (by omega)))
      · cases hf
  · cases hf
theorem op_mod : Op2 C (binaryOp .Mod) modV := by
  intro A s X μ σ v w u x r Q E H hv hw hf hQ
  unfold modV at hf
  split at hf
  · rename_i a b _
    obtain ⟨t, rfl⟩ := hv.int
    obtain ⟨t', rfl⟩ := hw.int
    split at hf
    · cases hf
    · rename_i n hn
      cases hf
      exact PyProof.Rows.mod_int' (by omega) (hQ _ _ _ (fun _ _ e => e) .mkInt)
  · cases hf
theorem op_neg : Op1 C (unaryOp .USub) negV := by
  intro A s X μ σ v u r Q E H hv hf hQ
  unfold negV at hf
  split at hf
  · obtain ⟨t, rfl⟩ := hv.int
    cases hf
    exact PyProof.Rows.neg_int (hQ _ _ _ (fun _ _ e => e) .mkInt)
  · cases hf
end

end Mine
end

section
set_option autoImplicit false
set_option Elab.async false
set_option maxRecDepth 100000
namespace Mine

abbrev DT := Rho → Sto → Option (Bool × Sto)
/-- the expression e, asked as a test, gives what d says -/
noncomputable def ST (C : Cx) (dp : Nat) (sc : Scope) (e : Expr) (d : DT) : Prop :=
  ∀ (A : Around) (env : Env) (s : Shared) (X μ : List Addr) (ρ : Rho) (σ : Sto) (b : Bool) (σ' : Sto) (Q : Bool → Shared → Prop) (E : Value → Shared → Prop),
    env.scope = sc → ARoom A dp → St C env s.heap X μ ρ σ → d ρ σ = some (b, σ') →
    (∀ h' tk X' μ', Post C env ρ s.heap X μ σ h' X' μ' σ' → Q b { s with heap := h', toks := tk }) →
    wpAny (model C.prog C.w) A (isTrue e env (eval e env)) Q E s

noncomputable def constD (v : V) : DE := fun _ σ => some (v, σ)
noncomputable def nameD (i : Nat) : DE := fun ρ σ => match lk ρ i with
  | some v => some (v, σ)
  | none => none
noncomputable def op1D (f : V → Sto → Option V) (d : DE) : DE := fun ρ σ => match d ρ σ with
  | none => none
  | some (a, σ₁) => match f a σ₁ with
    | some c => some (c, σ₁)
    | none => none
noncomputable def op2D (f : V → V → Sto → Option V) (d₁ d₂ : DE) : DE := fun ρ σ => match d₁ ρ σ with
  | none => none
  | some (a, σ₁) => match d₂ ρ σ₁ with
    | none => none
    | some (b, σ₂) => match f a b σ₂ with
      | some c => some (c, σ₂)
      | none => none
noncomputable def toT (d : DE) : DT := fun ρ σ => match d ρ σ with
  | some (.bool b, σ₁) => some (b, σ₁)
  | _ => none
noncomputable def ifD (t : DT) (d₁ d₂ : DE) : DE := fun ρ σ => match t ρ σ with
  | none => none
  | some (true, σ₁) => d₁ ρ σ₁
  | some (false, σ₁) => d₂ ρ σ₁
noncomputable def andT (t₁ t₂ : DT) : DT := fun ρ σ => match t₁ ρ σ with
  | none => none
  | some (true, σ₁) => t₂ ρ σ₁
  | some (false, σ₁) => some (false, σ₁)
noncomputable def orT (t₁ t₂ : DT) : DT := fun ρ σ => match t₁ ρ σ with
  | none => none
  | some (true, σ₁) => some (true, σ₁)
  | some (false, σ₁) => t₂ ρ σ₁
noncomputable def nilL : DL := fun _ σ => some ([], σ)
noncomputable def consL (d : DE) (ds : DL) : DL := fun ρ σ => match d ρ σ with
  | none => none
  | some (a, σ₁) => match ds ρ σ₁ with
    | none => none
    | some (as, σ₂) => some (a :: as, σ₂)
noncomputable def opND (f : List V → Sto → Option V) (ds : DL) : DE := fun ρ σ => match ds ρ σ with
  | none => none
  | some (as, σ₁) => match f as σ₁ with
    | some c => some (c, σ₁)
    | none => none
/-- a chain of two tests: a op₁ b op₂ c -/
noncomputable def chainT (f g : V → V → Sto → Option V) (d₁ d₂ d₃ : DE) : DT := fun ρ σ => match d₁ ρ σ with
  | none => none
  | some (a, σ₁) => match d₂ ρ σ₁ with
    | none => none
    | some (b, σ₂) => match f a b σ₂ with
      | some (.bool false) => some (false, σ₂)
      | some (.bool true) => match d₃ ρ σ₂ with
        | none => none
        | some (c, σ₃) => match g b c σ₃ with
          | some (.bool t) => some (t, σ₃)
          | _ => none
      | _ => none

section
variable {C : Cx} {dp : Nat} {sc : Scope}

theorem SE_int {i : Int} {k : Nat} {pos : Pos} : SE C dp sc (.Constant (.int i) k pos) (constD (.int i)) := by
  intro A env s X μ ρ σ u σ' Q E he hA hs hd hQ
  cases hd
  exact wpAny_Constant_int (hQ _ s.heap _ X μ (Post.refl hs) .mkInt)
theorem SE_bool {b : Bool} {k : Nat} {pos : Pos} : SE C dp sc (.Constant (.bool b) k pos) (constD (.bool b)) := by
  intro A env s X μ ρ σ u σ' Q E he hA hs hd hQ
  cases hd
  exact wpAny_Constant_bool (hQ _ s.heap s.toks X μ (Post.refl hs) .mkBool)
theorem SE_none {k : Nat} {pos : Pos} : SE C dp sc (.Constant .none k pos) (constD .none) := by
  intro A env s X μ ρ σ u σ' Q E he hA hs hd hQ
  cases hd
  exact wpAny_Constant_none (hQ _ s.heap s.toks X μ (Post.refl hs) .mkNone)

noncomputable def locIn (sc : Scope) (x : Str) : Bool := match sc.names.lookup x with
  | some .local => true
  | some .cell => true
  | some .free => true
  | _ => false
theorem loc_of {env : Env} {x : Str} (he : env.scope = sc) (h : locIn sc x = true) : Loc env x := by
  unfold locIn at h
  unfold Loc Env.kindOf
  rw [he]
  split at h <;> simp_all

theorem SE_name {i : Nat} {x : Str} {pos : Pos} (hi : C.tab[i]? = some x) (hl : locIn sc x = true) (hd : (x == Str.ofString "__debug__") = false) (hc : (x == Str.ofString "__classdict__") = false) :
    SE C dp sc (.Name x pos) (nameD i) := by
  intro A env s X μ ρ σ u σ' Q E he hA hs hdd hQ
  unfold nameD at hdd
  split at hdd
  · rename_i v hv
    cases hdd
    obtain ⟨v', hv', hr⟩ := hs.vars i x u hi hv (loc_of he hl)
    refine wpAny_Name ?_ hd
    rcases hv' with ⟨hk, m, hm, hx⟩ | ⟨hk, c, hcc, hx⟩
    · exact wpAny_loadName_local hs.envOk.kind hk hm hx (hQ _ s.heap s.toks X μ (Post.refl hs) hr)
    · rcases hk with hk | hk
      · exact wpAny_loadName_cell hs.envOk.kind hk hcc hx (hQ _ s.heap s.toks X μ (Post.refl hs) hr)
      · exact wpAny_loadName_free hs.envOk.kind hk hcc hx (hQ _ s.heap s.toks X μ (Post.refl hs) hr) hc
  · cases hdd

theorem SE_op1 {op : UnaryOp} {f : V → Sto → Option V} {x : Expr} {d : DE} {pos : Pos} (ho : Op1 C (unaryOp op) f) (hx : SE C dp sc x d) : SE C dp sc (.UnaryOp op x pos) (op1D f d) := by
  intro A env s X μ ρ σ u σ' Q E he hA hs hd hQ
  unfold op1D at hd
  split at hd
  · cases hd
  · rename_i a σ₁ h1
    split at hd
    · rename_i c h2
      cases hd
      refine wpAny_UnaryOp (hx A env s X μ ρ σ a _ _ E he hA hs h1 fun v h' tk X' μ' P R => ?_)
      exact ho A _ X' μ' _ v a _ _ E (P.st.hp hA) R h2 fun v' h'' tk' k R' => hQ v' h'' tk' X' μ' (P.trans (Post.of_keeps P.st k)) R'
    · cases hd

theorem SE_op2 {op : Operator} {f : V → V → Sto → Option V} {l r : Expr} {d₁ d₂ : DE} {pos : Pos} (ho : Op2 C (binaryOp op) f) (hl : SE C dp sc l d₁) (hr : SE C dp sc r d₂) :
    SE C dp sc (.BinOp l op r pos) (op2D f d₁ d₂) := by
  intro A env s X μ ρ σ u σ' Q E he hA hs hd hQ
  unfold op2D at hd
  split at hd
  · cases hd
  · rename_i a σ₁ h1
    split at hd
    · cases hd
    · rename_i b σ₂ h2
      split at hd
      · rename_i c h3
        cases hd
        refine wpAny_BinOp (hl A env s X μ ρ σ a σ₁ _ E he hA hs h1 fun v h' tk X' μ' P R => ?_)
        refine hr A env _ X' μ' ρ σ₁ b _ _ E he hA P.st h2 fun v₂ h₂ tk₂ X₂ μ₂ P₂ R₂ => ?_
        exact ho A _ X₂ μ₂ _ v v₂ a b _ _ E (P₂.st.hp hA) (P₂.rv P.st R) R₂ h3 fun v' h'' tk' k R' => hQ v' h'' tk' X₂ μ₂ ((P.trans P₂).trans (Post.of_keeps P₂.st k)) R'
      · cases hd

theorem SE_cmp {op : CmpOp} {f : V → V → Sto → Option V} {l r : Expr} {d₁ d₂ : DE} {pos : Pos} (ho : Op2 C (compareOp op) f) (hl : SE C dp sc l d₁) (hr : SE C dp sc r d₂) (hm : behindInMarks op r = false) :
    SE C dp sc (.Compare l [op] [r] pos) (op2D f d₁ d₂) := by
  intro A env s X μ ρ σ u σ' Q E he hA hs hd hQ
  unfold op2D at hd
  split at hd
  · cases hd
  · rename_i a σ₁ h1
    split at hd
    · cases hd
    · rename_i b σ₂ h2
      split at hd
      · rename_i c h3
        cases hd
        refine wpAny_Compare1 (hl A env s X μ ρ σ a σ₁ _ E he hA hs h1 fun v h' tk X' μ' P R => ?_) hm
        refine hr A env _ X' μ' ρ σ₁ b _ _ E he hA P.st h2 fun v₂ h₂ tk₂ X₂ μ₂ P₂ R₂ => ?_
        exact ho A _ X₂ μ₂ _ v v₂ a b _ _ E (P₂.st.hp hA) (P₂.rv P.st R) R₂ h3 fun v' h'' tk' k R' => hQ v' h'' tk' X₂ μ₂ ((P.trans P₂).trans (Post.of_keeps P₂.st k)) R'
      · cases hd

theorem ST_cmp {op : CmpOp} {f : V → V → Sto → Option V} {l r : Expr} {d₁ d₂ : DE} {pos : Pos} (ho : Op2 C (compareOp op) f) (hl : SE C dp sc l d₁) (hr : SE C dp sc r d₂) (hm : behindInMarks op r = false) :
    ST C dp sc (.Compare l [op] [r] pos) (toT (op2D f d₁ d₂)) := by
  intro A env s X μ ρ σ t σ' Q E he hA hs hd hQ
  unfold toT op2D at hd
  split at hd
  · rename_i b' σ₁' hd'
    cases hd
    split at hd'
    · cases hd'
    · rename_i a σ₁ h1
      split at hd'
      · cases hd'
      · rename_i b σ₂ h2
        split at hd'
        · rename_i c h3
          cases hd'
          refine wpAny_isTrue_Compare1 (hl A env s X μ ρ σ a σ₁ _ E he hA hs h1 fun v h' tk X' μ' P R => ?_) hm
          refine hr A env _ X' μ' ρ σ₁ b _ _ E he hA P.st h2 fun v₂ h₂ tk₂ X₂ μ₂ P₂ R₂ => ?_
          refine ho A _ X₂ μ₂ _ v v₂ a b _ _ E (P₂.st.hp hA) (P₂.rv P.st R) R₂ h3 fun v' h'' tk' k R' => ?_
          rw [R'.bool]
          exact wpAny_truthy_bool (hQ h'' tk' X₂ μ₂ ((P.trans P₂).trans (Post.of_keeps P₂.st k)))
        · cases hd'
  · cases hd

theorem ST_chain {op₁ op₂ : CmpOp} {f g : V → V → Sto → Option V} {l r₁ r₂ : Expr} {d₁ d₂ d₃ : DE} {pos : Pos} (ho : Op2 C (compareOp op₁) f) (ho₂ : Op2 C (compareOp op₂) g)
    (hl : SE C dp sc l d₁) (hr : SE C dp sc r₁ d₂) (hr₂ : SE C dp sc r₂ d₃) (hm : lastMarks [op₁, op₂] [r₁, r₂] = false) :
    ST C dp sc (.Compare l [op₁, op₂] [r₁, r₂] pos) (chainT f g d₁ d₂ d₃) := by
  intro A env s X μ ρ σ t σ' Q E he hA hs hd hQ
  unfold chainT at hd
  split at hd
  · cases hd
  · rename_i a σ₁ h1
    split at hd
    · cases hd
    · rename_i b σ₂ h2
      refine isTrue_chain ?_ hm
      refine hl A env s X μ ρ σ a σ₁ _ E he hA hs h1 fun v h' tk X' μ' P R => ?_
      show wpAny _ A (do
        let rv ← holding [v] (eval r₁ env)
        standAt pos
        let c ← holding [v, rv] (compareOp op₁ v rv)
        release [v, rv] [c]
        if ← holding [c, rv] (truthy c) then testChain pos rv [op₂] [eval r₂ env] else pure false) Q E _
      refine wpAny_bind (wpAny_holding (hr A env _ X' μ' ρ σ₁ b _ _ E he hA P.st h2 fun v₂ h₂ tk₂ X₂ μ₂ P₂ R₂ => ?_))
      refine wpAny_bind (wpAny_standAt (wpAny_bind (wpAny_holding ?_)))
      split at hd
      · rename_i h3
        cases hd
        refine ho A _ X₂ μ₂ _ v v₂ a b _ _ E (P₂.st.hp hA) (P₂.rv P.st R) R₂ h3 fun v' h'' tk' k R' => ?_
        rw [R'.bool]
        exact wpAny_bind (wpAny_release' (wpAny_bind (wpAny_holding (wpAny_truthy_bool (wpAny_pure (hQ h'' tk' X₂ μ₂ ((P.trans P₂).trans (Post.of_keeps P₂.st k))))))))
      · rename_i h3
        refine ho A _ X₂ μ₂ _ v v₂ a b _ _ E (P₂.st.hp hA) (P₂.rv P.st R) R₂ h3 fun v' h'' tk' k R' => ?_
        rw [R'.bool]
        refine wpAny_bind (wpAny_release' (wpAny_bind (wpAny_holding (wpAny_truthy_bool ?_))))
        have P₃ := (P.trans P₂).trans (Post.of_keeps P₂.st k)
        have R₃ := R₂.stay0 (Stay.of_keeps k)
        split at hd
        · cases hd
        · rename_i c σ₃ h4
          split at hd
          · rename_i t' h5
            cases hd
            show wpAny _ A (do
              let rv ← holding [v₂] (eval r₂ env)
              standAt pos
              let c ← operate [v₂, rv] (compareOp op₂ v₂ rv)
              holding [c] (truthy c)) Q E _
            refine wpAny_bind (wpAny_holding (hr₂ A env _ X₂ μ₂ ρ σ₂ c _ _ E he hA P₃.st h4 fun v₄ h₄ tk₄ X₄ μ₄ P₄ R₄ => ?_))
            refine wpAny_bind (wpAny_standAt (wpAny_bind (wpAny_operate' ?_)))
            refine ho₂ A _ X₄ μ₄ _ v₂ v₄ b c _ _ E (P₄.st.hp hA) (P₄.rv P₃.st R₃) R₄ h5 fun v₅ h₅ tk₅ k₅ R₅ => ?_
            rw [R₅.bool]
            exact wpAny_holding (wpAny_truthy_bool (hQ h₅ tk₅ X₄ μ₄ ((P₃.trans P₄).trans (Post.of_keeps P₄.st k₅))))
          · cases hd
      · cases hd

theorem ST_and {x y : Expr} {d₁ d₂ : DT} {pos : Pos} (hx : ST C dp sc x d₁) (hy : ST C dp sc y d₂) : ST C dp sc (.BoolOp .And [x, y] pos) (andT d₁ d₂) := by
  intro A env s X μ ρ σ t σ' Q E he hA hs hd hQ
  unfold andT at hd
  refine wpAny_isTrue_BoolOp (wpAny_allTrue_And_cons ?_)
  split at hd
  · cases hd
  · rename_i σ₁ h1
    refine hx A env s X μ ρ σ _ σ₁ _ E he hA hs h1 fun h' tk X' μ' P => ?_
    refine wpAny_allTrue_And_cons (hy A env _ X' μ' ρ σ₁ _ _ _ E he hA P.st hd fun h₂ tk₂ X₂ μ₂ P₂ => ?_)
    cases t with
    | true => exact wpAny_allTrue_And_nil (hQ h₂ tk₂ X₂ μ₂ (P.trans P₂))
    | false => exact hQ h₂ tk₂ X₂ μ₂ (P.trans P₂)
  · rename_i σ₁ h1
    cases hd
    exact hx A env s X μ ρ σ _ _ _ E he hA hs h1 fun h' tk X' μ' P => hQ h' tk X' μ' P
theorem ST_or {x y : Expr} {d₁ d₂ : DT} {pos : Pos} (hx : ST C dp sc x d₁) (hy : ST C dp sc y d₂) : ST C dp sc (.BoolOp .Or [x, y] pos) (orT d₁ d₂) := by
  intro A env s X μ ρ σ t σ' Q E he hA hs hd hQ
  unfold orT at hd
  refine wpAny_isTrue_BoolOp (wpAny_allTrue_Or_cons ?_)
  split at hd
  · cases hd
  · rename_i σ₁ h1
    cases hd
    exact hx A env s X μ ρ σ _ _ _ E he hA hs h1 fun h' tk X' μ' P => hQ h' tk X' μ' P
  · rename_i σ₁ h1
    refine hx A env s X μ ρ σ _ σ₁ _ E he hA hs h1 fun h' tk X' μ' P => ?_
    refine wpAny_allTrue_Or_cons (hy A env _ X' μ' ρ σ₁ _ _ _ E he hA P.st hd fun h₂ tk₂ X₂ μ₂ P₂ => ?_)
    cases t with
    | false => exact wpAny_allTrue_Or_nil (hQ h₂ tk₂ X₂ μ₂ (P.trans P₂))
    | true => exact hQ h₂ tk₂ X₂ μ₂ (P.trans P₂)

theorem SE_if {t a b : Expr} {dt : DT} {d₁ d₂ : DE} {pos : Pos} (ht : ST C dp sc t dt) (ha : SE C dp sc a d₁) (hb : SE C dp sc b d₂) : SE C dp sc (.IfExp t a b pos) (ifD dt d₁ d₂) := by
  intro A env s X μ ρ σ u σ' Q E he hA hs hd hQ
  unfold ifD at hd
  refine wpAny_IfExp ?_
  split at hd
  · cases hd
  · rename_i σ₁ h1
    refine ht A env s X μ ρ σ _ σ₁ _ E he hA hs h1 fun h' tk X' μ' P => ?_
    rw [if_pos rfl]
    exact ha A env _ X' μ' ρ σ₁ _ _ _ E he hA P.st hd fun v h₂ tk₂ X₂ μ₂ P₂ R => hQ v h₂ tk₂ X₂ μ₂ (P.trans P₂) R
  · rename_i σ₁ h1
    refine ht A env s X μ ρ σ _ σ₁ _ E he hA hs h1 fun h' tk X' μ' P => ?_
    rw [if_neg (by simp)]
    exact hb A env _ X' μ' ρ σ₁ _ _ _ E he hA P.st hd fun v h₂ tk₂ X₂ μ₂ P₂ R => hQ v h₂ tk₂ X₂ μ₂ (P.trans P₂) R

theorem SL_nil : SL C dp sc [] nilL := by
  intro A env s X μ ρ σ us σ' pos Q E he hA hs hd hQ
  cases hd
  exact Calls.spliced_nil (hQ [] s.heap s.toks X μ (Post.refl hs) .nil)
theorem SL_cons {e : Expr} {es : List Expr} {d : DE} {ds : DL} (hse : ∀ env, starEach (e :: es) env = (false, eval e env) :: starEach es env) (hx : SE C dp sc e d) (hxs : SL C dp sc es ds) : SL C dp sc (e :: es) (consL d ds) := by
  intro A env s X μ ρ σ us σ' pos Q E he hA hs hd hQ
  unfold consL at hd
  split at hd
  · cases hd
  · rename_i a σ₁ h1
    split at hd
    · cases hd
    · rename_i as σ₂ h2
      cases hd
      rw [hse]
      refine Calls.spliced_cons (x := eval e env) (rest := backTo pos (starEach es env)) (hx A env s X μ ρ σ a σ₁ _ E he hA hs h1 fun v h' tk X' μ' P R => ?_)
      exact hxs A env _ X' μ' ρ σ₁ as _ pos _ E he hA P.st h2 fun vs h₂ tk₂ X₂ μ₂ P₂ R₂ => hQ (v :: vs) h₂ tk₂ X₂ μ₂ (P.trans P₂) (.cons (P₂.rv P.st R) R₂)

noncomputable def lstV (us : List V) (_ : Sto) : Option V := match noLocs us with
  | true => match Nat.ble us.length 100000 with
    | true => some (.lst us)
    | false => none
  | false => none
noncomputable def tupV (us : List V) (_ : Sto) : Option V := match noLocs us with
  | true => match Nat.ble us.length 100000 with
    | true => some (.tup us)
    | false => none
  | false => none
theorem opN_list : OpN C newList lstV := by
  intro A s X μ σ vs us r Q E H hv hf hQ
  unfold lstV at hf
  split at hf
  · rename_i hn
    split at hf
    · rename_i hle
      cases hf
      refine wpAny_newList ?_ (by rw [hv.1]; have := Nat.le_of_ble_eq_true hle; have : sizeLine = 16777216 := rfl; omega)
      exact hQ _ _ _ (push_keeps _ _) (RV.newLst (push_keeps _ _) H.there (get?_size _) ⟨0, Heap.get?_push_size _ rfl⟩ (hv.toRFs hn))
    · cases hf
  · cases hf
theorem opN_tuple : OpN C newTuple tupV := by
  intro A s X μ σ vs us r Q E H hv hf hQ
  unfold tupV at hf
  split at hf
  · rename_i hn
    split at hf
    · rename_i hle
      cases hf
      refine wpAny_newTuple ?_ (by rw [hv.1]; have := Nat.le_of_ble_eq_true hle; have : sizeLine = 16777216 := rfl; omega)
      exact hQ _ _ _ (push_keeps _ _) (RV.newTup (push_keeps _ _) H.there (get?_size _) ⟨_, Heap.get?_push_size _ rfl, rfl, 0, rfl⟩ (hv.toRFs hn))
    · cases hf
  · cases hf
theorem SE_list {es : List Expr} {ds : DL} {pos : Pos} (h : SL C dp sc es ds) : SE C dp sc (.List es pos) (opND lstV ds) := by
  intro A env s X μ ρ σ u σ' Q E he hA hs hd hQ
  unfold opND at hd
  split at hd
  · cases hd
  · rename_i as σ₁ h1
    split at hd
    · rename_i c h2
      cases hd
      refine PyProof.Rows.List_ (h A env s X μ ρ σ as _ pos _ E he hA hs h1 fun vs h' tk X' μ' P R => ?_)
      exact opN_list A { s with heap := h', toks := tk } X' μ' _ vs as _ _ E (P.st.hp hA) R h2 fun v' h'' tk' k R' => hQ v' h'' tk' X' μ' (P.trans (Post.of_keeps P.st k)) R'
    · cases hd
theorem SE_tuple {es : List Expr} {ds : DL} {k : Nat} {pos : Pos} (h : SL C dp sc es ds) : SE C dp sc (.Tuple es k pos) (opND tupV ds) := by
  intro A env s X μ ρ σ u σ' Q E he hA hs hd hQ
  unfold opND at hd
  split at hd
  · cases hd
  · rename_i as σ₁ h1
    split at hd
    · rename_i c h2
      cases hd
      refine PyProof.Rows.Tuple_ (h A env s X μ ρ σ as _ pos _ E he hA hs h1 fun vs h' tk X' μ' P R => ?_)
      exact opN_tuple A { s with heap := h', toks := tk } X' μ' _ vs as _ _ E (P.st.hp hA) R h2 fun v' h'' tk' k R' => hQ v' h'' tk' X' μ' (P.trans (Post.of_keeps P.st k)) R'
    · cases hd
end

end Mine
end

section
set_option autoImplicit false
set_option Elab.async false
set_option maxRecDepth 100000
namespace Mine

-- items -------------------------------------------------------------------------------------------------------------------
noncomputable def nth : List V → Nat → Option V
  | [], _ => none
  | x :: _, 0 => some x
  | _ :: xs, n + 1 => nth xs n
theorem nth_eq : ∀ (xs : List V) (n : Nat), nth xs n = xs[n]?
  | [], n => by simp [nth]
  | x :: xs, 0 => by simp [nth]
  | x :: xs, n + 1 => by simp [nth, nth_eq xs n]
noncomputable def nthS : Sto → Nat → Option SO
  | [], _ => none
  | o :: _, 0 => o
  | _ :: r, n + 1 => nthS r n
theorem nthS_eq : ∀ (σ : Sto) (n : Nat) (o : SO), nthS σ n = some o → σ[n]? = some (some o)
  | [], n, o => by simp [nthS]
  | p :: r, 0, o => by simp [nthS]
  | p :: r, n + 1, o => by intro h; simpa using nthS_eq r n o h
noncomputable def idx (xs : List V) : Int → Option V
  | .ofNat n => match Nat.ble n bigN with
    | true => nth xs n
    | false => none
  | .negSucc n => match Nat.ble (n + 1) xs.length with
    | true => match Nat.ble n bigN with
      | true => nth xs (xs.length - (n + 1))
      | false => none
    | false => none
noncomputable def keyOf : List V → Option (List Int)
  | [] => some []
  | .int i :: r => match keyOf r with
    | some k => some (i :: k)
    | none => none
  | _ => none
noncomputable def keyEq : List Int → List Int → Bool
  | [], [] => true
  | a :: r, b :: t => match Int.decEq a b with
    | .isTrue _ => keyEq r t
    | .isFalse _ => false
  | _, _ => false
theorem keyEq_iff : ∀ (a b : List Int), keyEq a b = decide (a = b)
  | [], [] => by simp [keyEq]
  | [], b :: t => by simp [keyEq]
  | a :: r, [] => by simp [keyEq]
  | a :: r, b :: t => by
    simp only [keyEq]
    split
    · rename_i e _
      subst e
      simp [keyEq_iff r t]
    · rename_i e _
      simp [e]
noncomputable def dget : List (List Int × V) → List Int → Option V
  | [], _ => none
  | (k, v) :: r, key => match keyEq k key with
    | true => some v
    | false => dget r key
noncomputable def itemV : V → V → Sto → Option V
  | .lst xs, .int i, _ => idx xs i
  | .tup xs, .int i, _ => idx xs i
  | .dct es, .tup ks, _ => match keyOf ks with
    | some k => dget es k
    | none => none
  | .loc n, .int i, σ => match nthS σ n with
    | some (.list xs) => idx xs i
    | _ => none
  | .loc n, .tup ks, σ => match nthS σ n with
    | some (.dict es) => match keyOf ks with
      | some k => dget es k
      | none => none
    | _ => none
  | _, _, _ => none

section
variable {C : Cx} {h h' : Heap} {X μ : List Addr}

theorem idx_facts {xs : List V} {i : Int} {r : V} (e : idx xs i = some r) :
    (0 ≤ i ∧ i < 2 ^ 63 ∧ xs[i.toNat]? = some r) ∨ (i < 0 ∧ -(xs.length : Int) ≤ i ∧ -2 ^ 63 ≤ i ∧ xs[(i + xs.length).toNat]? = some r) := by
  unfold idx at e
  split at e
  · rename_i n
    split at e
    · rename_i hb
      have := Nat.le_of_ble_eq_true hb
      rw [nth_eq] at e
      refine .inl ⟨Int.natCast_nonneg n, ?_, e⟩
      show (n : Int) < _
      unfold bigN at this
      omega
    · cases e
  · rename_i n
    split at e
    · rename_i hb
      split at e
      · rename_i hb'
        have h1 := Nat.le_of_ble_eq_true hb
        have h2 := Nat.le_of_ble_eq_true hb'
        rw [nth_eq] at e
        unfold bigN at h2
        refine .inr ⟨Int.negSucc_lt_zero n, by omega, by omega, ?_⟩
        have : (Int.negSucc n + (xs.length : Int)).toNat = xs.length - (n + 1) := by omega
        rw [this]
        exact e
      · cases e
    · cases e

theorem tupKey : ∀ {ks : List V} {k : List Int} {vs : List Value}, keyOf ks = some k → RFs C h X vs ks → ItemsAre (intKind C.prog C.w) k vs
  | [], k, vs, e, r => by
    cases e
    rw [r.unnil]
    exact .nil
  | x :: xs, k, vs, e, r => by
    obtain ⟨v, ws, rfl, r1, r2⟩ := r.uncons
    cases x with
    | int i =>
      simp only [keyOf] at e
      split at e
      · rename_i k' hk
        cases e
        obtain ⟨t, rfl⟩ := RV.int (μ := []) (C := C) (h := h) (X := X) r1
        refine .cons ?_ (tupKey hk r2)
        show Value.isInt i (.int i t) = true
        simp [Value.isInt]
      · cases e
    | _ => cases e
theorem isKey {a : Addr} {vs : List Value} {ks : List V} {k : List Int} (hl : h.IsTuple a vs.toArray) (e : keyOf ks = some k) (r : RFs C h X vs ks) : (TK C.prog C.w).is h k a := by
  obtain ⟨o, ho, hc, n, hd⟩ := hl
  exact ⟨o, vs.toArray, n, ho, hc, hd, by simpa using tupKey e r⟩

theorem dget_at : ∀ {ys : List (List Int × Addr × Value)} {es : List (List Int × V)} {k : List Int} {r : V}, ys.map (·.1) = es.map (·.1) → dget es k = some r →
    ∃ (i : Nat) (y : List Int × Addr × Value) (e : List Int × V), ys[i]? = some y ∧ es[i]? = some e ∧ e.2 = r ∧ atKey ys k = some y.2
  | [], [], k, r, _, e => by cases e
  | [], _ :: _, k, r, hm, e => by simp at hm
  | _ :: _, [], k, r, hm, e => by simp at hm
  | (k₁, a, v) :: ys, (k₂, u) :: es, k, r, hm, e => by
    simp only [List.map_cons, List.cons.injEq] at hm
    obtain ⟨rfl, hm⟩ := hm
    simp only [dget, keyEq_iff] at e
    by_cases hk : k₁ = k
    · subst hk
      simp only [decide_true] at e
      cases e
      exact ⟨0, _, _, rfl, rfl, rfl, by simp [atKey]⟩
    · simp only [hk, decide_false] at e
      obtain ⟨i, y, e', h1, h2, h3, h4⟩ := dget_at hm e
      exact ⟨i + 1, y, e', by simpa using h1, by simpa using h2, h3, by simpa [atKey, List.find?_cons, hk] using h4⟩
theorem dget_none : ∀ {ys : List (List Int × Addr × Value)} {es : List (List Int × V)} {k : List Int}, ys.map (·.1) = es.map (·.1) → dget es k = none → atKey ys k = none
  | [], [], k, _, e => by simp [atKey]
  | [], _ :: _, k, hm, e => by simp at hm
  | _ :: _, [], k, hm, e => by simp at hm
  | (k₁, a, v) :: ys, (k₂, u) :: es, k, hm, e => by
    simp only [List.map_cons, List.cons.injEq] at hm
    obtain ⟨rfl, hm⟩ := hm
    simp only [dget, keyEq_iff] at e
    by_cases hk : k₁ = k
    · subst hk
      simp only [decide_true] at e
      cases e
    · simp only [hk, decide_false] at e
      have := dget_none hm e
      simpa [atKey, List.find?_cons, hk] using this

/-- what an item of a list or a tuple at hand is -/
theorem item_at {vs : List Value} {xs : List V} {n : Nat} {r : V} (hn : vs.length = xs.length) (e : xs[n]? = some r) : ∃ v, vs[n]? = some v :=
  ⟨vs[n]'(by rw [hn]; exact (List.getElem?_eq_some_iff.mp e).1), List.getElem?_eq_getElem _⟩
end

section
variable {C : Cx} {dp : Nat} {sc : Scope}

theorem wp_list_item {A : Around} {s : Shared} {l : Addr} {vs : List Value} {xs : List V} {i : Int} {t : Tok} {r : V} {Q : Value → Shared → Prop} {E : Value → Shared → Prop}
    (hl : s.heap.PlainList l vs.toArray) (hn : vs.length = xs.length) (e : idx xs i = some r) (hQ : ∀ (n : Nat) (v : Value), vs[n]? = some v → xs[n]? = some r → Q v s) :
    wpAny (model C.prog C.w) A (getItem (.ref l) (.int i t)) Q E s := by
  rcases idx_facts e with ⟨h0, h1, h2⟩ | ⟨h0, h1, h2, h3⟩
  · obtain ⟨v, hv⟩ := item_at hn h2
    exact wpAny_getItem_list hl.isList h0 h1 (by simpa using hv) (hQ _ v hv h2)
  · obtain ⟨v, hv⟩ := item_at hn h3
    refine wpAny_getItem_list_neg hl.isList h0 ?_ h2 ?_ (hQ _ v hv h3)
    · rw [List.size_toArray, hn]; exact h1
    · rw [List.size_toArray, hn]; simpa using hv
end
end Mine
end

section
set_option autoImplicit false
set_option Elab.async false
set_option maxRecDepth 100000
namespace Mine
section
variable {C : Cx} {dp : Nat} {sc : Scope}

theorem seqIndex_facts {xs : List V} {i : Int} {r : V} {n : Nat} (hn : n = xs.length) (e : idx xs i = some r) : ∃ j, -(2 ^ 63) ≤ i ∧ i < 2 ^ 63 ∧ seqIndex? i n = some j ∧ xs[j]? = some r := by
  rcases idx_facts e with ⟨h0, h1, h2⟩ | ⟨h0, h1, h2, h3⟩
  · have h4 := (List.getElem?_eq_some_iff.mp h2).1
    refine ⟨i.toNat, by omega, h1, ?_, h2⟩
    unfold seqIndex?
    simp only [Int.not_lt.mpr h0, if_false]
    have : (decide (0 ≤ i) && decide (i < (n : Int))) = true := by
      simp only [Bool.and_eq_true, decide_eq_true_eq]
      omega
    rw [if_pos this]
  · have h4 := (List.getElem?_eq_some_iff.mp h3).1
    refine ⟨(i + xs.length).toNat, by omega, by omega, ?_, h3⟩
    unfold seqIndex?
    simp only [h0, if_true, hn]
    have : (decide (0 ≤ i + (xs.length : Int)) && decide (i + (xs.length : Int) < (xs.length : Int))) = true := by
      simp only [Bool.and_eq_true, decide_eq_true_eq]
      omega
    rw [if_pos this]

/-- an item, in whatever of the four shapes -/
theorem op_item {value slice : Expr} (hs : ∀ o i, subscripted slice false o i = operate [o, i] (getItem o i)) : Op2 C (subscriptTail value slice) itemV := by
  intro A s X μ σ v w u x r Q E H hv hw hf hQ
  have room : A.in1.units < cLine := by have := H.units; show A.units + 1 < cLine; omega
  unfold itemV at hf
  split at hf
  · obtain ⟨l, vs, rfl, hl, ha, hr⟩ := hv.lst
    obtain ⟨t, rfl⟩ := hw.int
    refine tail_any hl.isList.typeIs slot_list_getitem.lookup ?_ (hs _ _)
    exact wp_list_item hl hr.1 hf fun n v' h1 h2 => hQ v' s.heap s.toks (fun _ _ e => e) (hr.2 n v' r h1 h2).toRV
  · obtain ⟨l, vs, rfl, hl, ha, hr⟩ := hv.tup
    obtain ⟨t, rfl⟩ := hw.int
    obtain ⟨j, h1, h2, h3, h4⟩ := seqIndex_facts hr.1 hf
    obtain ⟨v', hv'⟩ := item_at hr.1 h4
    obtain ⟨o, ho, hc, hd⟩ := id hl
    refine tail_any (T := "tuple") ⟨o, ho, hc⟩ slot_tuple_getitem.lookup ?_ (hs _ _)
    exact getItem_tuple hl h1 h2 (by rw [List.size_toArray]; exact h3) (by simpa using hv') (hQ v' s.heap s.toks (fun _ _ e => e) (hr.2 j v' r hv' h4).toRV)
  · rename_i es ks
    cases hv with
    | @dct a ys _ hd ha hsm hy hk hi =>
      obtain ⟨l, vs, rfl, hl, ha', hr⟩ := hw.tup
      split at hf
      · rename_i k hkk
        obtain ⟨i, y, e, h1, h2, h3, h4⟩ := dget_at hk hf
        refine tail_any (T := "dict") hd.typeIs F.slot_dict_getitem.lookup ?_ (hs _ _)
        exact wpAny_getItem_heap (p := y.2) room (isKey hl hkk hr) hd h4 (hQ _ s.heap _ (fun _ _ e => e) (h3 ▸ (hi i y e h1 h2).toRV))
      · cases hf
  · rename_i n i
    obtain ⟨a, rfl, hμ⟩ := hv
    obtain ⟨t, rfl⟩ := hw.int
    split at hf
    · rename_i xs hn
      have hob := H.sto.obj n a _ hμ (nthS_eq _ _ _ hn)
      cases hob with
      | @list vs _ hl hlen hi =>
        refine tail_any hl.isList.typeIs slot_list_getitem.lookup ?_ (hs _ _)
        exact wp_list_item hl hlen hf fun n v' h1 h2 => hQ v' s.heap s.toks (fun _ _ e => e) (hi n v' r h1 h2)
    · cases hf
  · rename_i n ks
    obtain ⟨a, rfl, hμ⟩ := hv
    obtain ⟨l, vs, rfl, hl, ha', hr⟩ := hw.tup
    split at hf
    · rename_i es hn
      have hob := H.sto.obj n a _ hμ (nthS_eq _ _ _ hn)
      cases hob with
      | @dict ys _ hd hsm hy hk hi =>
        split at hf
        · rename_i k hkk
          obtain ⟨i, y, e, h1, h2, h3, h4⟩ := dget_at hk hf
          refine tail_any (T := "dict") hd.typeIs F.slot_dict_getitem.lookup ?_ (hs _ _)
          exact wpAny_getItem_heap (p := y.2) room (isKey hl hkk hr) hd h4 (hQ _ s.heap _ (fun _ _ e => e) (h3 ▸ (hi i y e h1 h2).toRV))
        · cases hf
    · cases hf
  · cases hf

theorem SE_item {value slice : Expr} {d₁ d₂ : DE} {pos : Pos} (hs : ∀ o i, subscripted slice false o i = operate [o, i] (getItem o i)) (hl : SE C dp sc value d₁) (hr : SE C dp sc slice d₂) :
    SE C dp sc (.Subscript value slice pos) (op2D itemV d₁ d₂) := by
  intro A env s X μ ρ σ u σ' Q E he hA hs' hd hQ
  unfold op2D at hd
  split at hd
  · cases hd
  · rename_i a σ₁ h1
    split at hd
    · cases hd
    · rename_i b σ₂ h2
      split at hd
      · rename_i c h3
        cases hd
        refine Subscript_ (hl A env s X μ ρ σ a σ₁ _ E he hA hs' h1 fun v h' tk X' μ' P R => ?_)
        refine hr A env _ X' μ' ρ σ₁ b _ _ E he hA P.st h2 fun v₂ h₂ tk₂ X₂ μ₂ P₂ R₂ => ?_
        exact op_item hs A _ X₂ μ₂ _ v v₂ a b _ _ E (P₂.st.hp hA) (P₂.rv P.st R) R₂ h3 fun v' h'' tk' k R' => hQ v' h'' tk' X₂ μ₂ ((P.trans P₂).trans (Post.of_keeps P₂.st k)) R'
      · cases hd

-- slices ------------------------------------------------------------------------------------------------------------------
/-- a part of a slice: nothing, or an expression -/
noncomputable def SP (C : Cx) (dp : Nat) (sc : Scope) (e : Option Expr) (d : DE) : Prop :=
  ∀ (A : Around) (env : Env) (s : Shared) (X μ : List Addr) (ρ : Rho) (σ : Sto) (u : V) (σ' : Sto) (Q : Value → Shared → Prop) (E : Value → Shared → Prop),
    env.scope = sc → ARoom A dp → St C env s.heap X μ ρ σ → d ρ σ = some (u, σ') →
    (∀ v h' tk X' μ', Post C env ρ s.heap X μ σ h' X' μ' σ' → RV C.prog C.w h' X' μ' v u → Q v { s with heap := h', toks := tk }) →
    wpAny (model C.prog C.w) A (evalPart e env) Q E s
theorem SP_none : SP C dp sc none (constD .none) := by
  intro A env s X μ ρ σ u σ' Q E he hA hs hd hQ
  cases hd
  exact wpAny_evalPart_none (hQ _ s.heap s.toks X μ (Post.refl hs) .mkNone)
theorem SP_some {e : Expr} {d : DE} (h : SE C dp sc e d) : SP C dp sc (some e) d := h

noncomputable def sliceV : V → V → V → V → Sto → Option V
  | .lst xs, .none, .int (.ofNat b), .none, _ => match Nat.ble xs.length 100000 with
    | true => some (.lst (xs.take b))
    | false => none
  | .lst xs, .int (.ofNat a), .none, .none, _ => match Nat.ble xs.length 100000 with
    | true => some (.lst (xs.drop a))
    | false => none
  | .lst xs, .none, .none, .int (.negSucc 0), _ => match Nat.ble xs.length 100000 with
    | true => some (.lst xs.reverse)
    | false => none
  | .loc n, .none, .int (.ofNat b), .none, σ => match nthS σ n with
    | some (.list xs) => match noLocs xs with
      | true => match Nat.ble xs.length 100000 with
        | true => some (.lst (xs.take b))
        | false => none
      | false => none
    | _ => none
  | _, _, _, _, _ => none
noncomputable def sliceD (d dl du ds : DE) : DE := fun ρ σ => match d ρ σ with
  | none => none
  | some (a, σ₁) => match dl ρ σ₁ with
    | none => none
    | some (l, σ₂) => match du ρ σ₂ with
      | none => none
      | some (u, σ₃) => match ds ρ σ₃ with
        | none => none
        | some (t, σ₄) => match sliceV a l u t σ₄ with
          | some r => some (r, σ₄)
          | none => none

theorem RFs.take {h : Heap} {X : List Addr} {vs : List Value} {xs : List V} (r : RFs C h X vs xs) (n : Nat) : RFs C h X (vs.take n) (xs.take n) := by
  refine ⟨by rw [List.length_take, List.length_take, r.1], fun i v x e e' => ?_⟩
  rw [List.getElem?_take] at e e'
  split at e
  · rename_i hi
    rw [if_pos hi] at e'
    exact r.2 i v x e e'
  · cases e
theorem RFs.drop {h : Heap} {X : List Addr} {vs : List Value} {xs : List V} (r : RFs C h X vs xs) (n : Nat) : RFs C h X (vs.drop n) (xs.drop n) := by
  refine ⟨by rw [List.length_drop, List.length_drop, r.1], fun i v x e e' => ?_⟩
  rw [List.getElem?_drop] at e e'
  exact r.2 _ v x e e'
theorem RFs.reverse {h : Heap} {X : List Addr} {vs : List Value} {xs : List V} (r : RFs C h X vs xs) : RFs C h X vs.reverse xs.reverse := by
  refine ⟨by rw [List.length_reverse, List.length_reverse, r.1], fun i v x e e' => ?_⟩
  have h1 : i < vs.length := by have := (List.getElem?_eq_some_iff.mp e).1; simpa using this
  rw [List.getElem?_reverse h1] at e
  rw [List.getElem?_reverse (r.1 ▸ h1), ← r.1] at e'
  exact r.2 _ v x e e'

theorem op_slice {A : Around} {s : Shared} {X μ : List Addr} {σ : Sto} {v vl vu vt : Value} {a l u t r : V} {Q : Value → Shared → Prop} {E : Value → Shared → Prop} {lo hi st : Option Expr} {p : Pos} {ve : Expr}
    (H : Hp C A s.heap X μ σ) (hv : RV C.prog C.w s.heap X μ v a) (hl : RV C.prog C.w s.heap X μ vl l) (hu : RV C.prog C.w s.heap X μ vu u) (ht : RV C.prog C.w s.heap X μ vt t) (hf : sliceV a l u t σ = some r)
    (hsub : ∃ ops : Value → Value → List Value, ∀ o i, subscripted (.Slice lo hi st p) false o i = operate (ops o i) (getItem o i))
    (hQ : ∀ v' h' tk, (∀ b o, s.heap.get? b = some o → h'.get? b = some o) → RV C.prog C.w h' X μ v' r → Q v' { s with heap := h', toks := tk }) :
    wpAny (model C.prog C.w) A (subscriptTail ve (.Slice lo hi st p) v (.ref s.heap.objs.size)) Q E { s with heap := s.heap.push { cls := .type "slice", data := .fields #[vl, vu, vt] } } := by
  obtain ⟨ops, hsub⟩ := hsub
  have key : ∀ (b : Addr) (vs ws : List Value) (xs : List V) (lo' hi' st' : Option Int), v = .ref b → s.heap.PlainList b vs.toArray → RFs C s.heap X ws xs → slicePick vs.toArray lo' hi' st' = ws.toArray → vs.length ≤ sizeLine →
      IsPart vl lo' → IsPart vu hi' → IsPart vt st' → st' ≠ some 0 → r = .lst xs →
      wpAny (model C.prog C.w) A (subscriptTail ve (.Slice lo hi st p) v (.ref s.heap.objs.size)) Q E { s with heap := s.heap.push { cls := .type "slice", data := .fields #[vl, vu, vt] } } := by
    intro b vs ws xs lo' hi' st' e1 hb hr hp hsz p1 p2 p3 hne e2
    subst e1 e2
    have hb' : (s.heap.push { cls := .type "slice", data := .fields #[vl, vu, vt] }).PlainList b vs.toArray := hb.at fun o e => push_keeps _ _ _ _ e
    refine tail_any hb'.isList.typeIs slot_list_getitem.lookup ?_ (hsub _ _)
    refine wpAny_getItem_list_slice (vl := vl) (vu := vu) (vs := vt) hb'.isList ⟨_, Heap.get?_push_size _ rfl, rfl, rfl⟩ p1 p2 p3 hne ?_ (by rw [List.size_toArray]; exact hsz)
    rw [hp]
    have k2 : ∀ b o, s.heap.get? b = some o → ((s.heap.push { cls := .type "slice", data := .fields #[vl, vu, vt] }).push { cls := .type "list", data := .seq ws.toArray }).get? b = some o := fun b o e => push_keeps _ _ _ _ (push_keeps _ _ _ _ e)
    refine hQ _ _ s.toks k2 (RV.newLst k2 H.there ?_ ⟨0, Heap.get?_push_size _ rfl⟩ hr)
    cases e : s.heap.get? (s.heap.push { cls := .type "slice", data := .fields #[vl, vu, vt] }).objs.size with
    | none => rfl
    | some o =>
      have := Heap.lt_size e
      rw [Heap.size_push] at this
      exact absurd (Nat.lt_trans (Nat.lt_succ_self _) this) (Nat.lt_irrefl _)
  have big : ∀ n : Nat, Nat.ble n 100000 = true → n ≤ sizeLine := fun n hn => by
    have := Nat.le_of_ble_eq_true hn
    have : sizeLine = 16777216 := rfl
    omega
  unfold sliceV at hf
  split at hf
  · rename_i xs b
    obtain ⟨b', vs, rfl, hb, ha, hr⟩ := hv.lst
    obtain rfl := hl.invNone
    obtain rfl := ht.invNone
    obtain ⟨t', rfl⟩ := hu.int
    split at hf
    · rename_i hle
      cases hf
      refine key b' vs (vs.take b) _ none (some (b : Int)) none rfl hb (hr.take b) ?_ (by rw [hr.1]; exact big _ hle) .none (.int _ _) .none (by simp) rfl
      rw [kms_pick_eq]
      have hb0 : ¬ ((b : Int) < 0) := by omega
      unfold kms_pick kms_lo kms_hi
      simp [hb0]
    · cases hf
  · rename_i xs b
    obtain ⟨b', vs, rfl, hb, ha, hr⟩ := hv.lst
    obtain rfl := hu.invNone
    obtain rfl := ht.invNone
    obtain ⟨t', rfl⟩ := hl.int
    split at hf
    · rename_i hle
      cases hf
      refine key b' vs (vs.drop b) _ (some (b : Int)) none none rfl hb (hr.drop b) ?_ (by rw [hr.1]; exact big _ hle) (.int _ _) .none .none (by simp) rfl
      rw [kms_pick_eq]
      have hb0 : ¬ ((b : Int) < 0) := by omega
      unfold kms_pick kms_lo kms_hi
      simp [hb0]
      rcases Nat.le_total b vs.length with c | c
      · rw [Nat.min_eq_left c]
        exact List.take_of_length_le (by simp)
      · rw [Nat.min_eq_right c]
        simp [List.drop_eq_nil_of_le c]
    · cases hf
  · rename_i xs
    obtain ⟨b', vs, rfl, hb, ha, hr⟩ := hv.lst
    obtain rfl := hu.invNone
    obtain rfl := hl.invNone
    obtain ⟨t', rfl⟩ := ht.int
    split at hf
    · rename_i hle
      cases hf
      refine key b' vs vs.reverse _ none none (some (-1)) rfl hb hr.reverse ?_ (by rw [hr.1]; exact big _ hle) .none .none (.int _ _) (by simp) rfl
      rw [krv_pick]
    · cases hf
  · rename_i n b
    split at hf
    · rename_i xs hn
      split at hf
      · rename_i hnl
        split at hf
        · rename_i hle
          cases hf
          obtain ⟨b', rfl, hμ⟩ := hv
          have hob := H.sto.obj n b' _ hμ (nthS_eq _ _ _ hn)
          cases hob with
          | @list vs _ hb hlen hi =>
            have hr : RFs C s.heap X vs xs := RVs.toRFs ⟨hlen, hi⟩ hnl
            obtain rfl := hl.invNone
            obtain rfl := ht.invNone
            obtain ⟨t', rfl⟩ := hu.int
            refine key b' vs (vs.take b) _ none (some (b : Int)) none rfl hb (hr.take b) ?_ (by rw [hr.1]; exact big _ hle) .none (.int _ _) .none (by simp) rfl
            rw [kms_pick_eq]
            have hb0 : ¬ ((b : Int) < 0) := by omega
            unfold kms_pick kms_lo kms_hi
            simp [hb0]
        · cases hf
      · cases hf
    · cases hf
  · cases hf

theorem SE_slice {value : Expr} {lo hi st : Option Expr} {d dl du ds : DE} {p pos : Pos} (hv : SE C dp sc value d) (hl : SP C dp sc lo dl) (hu : SP C dp sc hi du) (ht : SP C dp sc st ds)
    (hsub : ∃ ops : Value → Value → List Value, ∀ o i, subscripted (.Slice lo hi st p) false o i = operate (ops o i) (getItem o i)) :
    SE C dp sc (.Subscript value (.Slice lo hi st p) pos) (sliceD d dl du ds) := by
  intro A env s X μ ρ σ u σ' Q E he hA hs' hd hQ
  unfold sliceD at hd
  split at hd
  · cases hd
  · rename_i a σ₁ h1
    split at hd
    · cases hd
    · rename_i l σ₂ h2
      split at hd
      · cases hd
      · rename_i u' σ₃ h3
        split at hd
        · cases hd
        · rename_i t σ₄ h4
          split at hd
          · rename_i r h5
            cases hd
            refine Subscript_ (hv A env s X μ ρ σ a σ₁ _ E he hA hs' h1 fun v h' tk X' μ' P R => ?_)
            refine wpAny_Slice (hl A env _ X' μ' ρ σ₁ l σ₂ _ E he hA P.st h2 fun vl k₂ tk₂ X₂ μ₂ P₂ R₂ => ?_)
            refine hu A env _ X₂ μ₂ ρ σ₂ u' σ₃ _ E he hA P₂.st h3 fun vu k₃ tk₃ X₃ μ₃ P₃ R₃ => ?_
            refine ht A env _ X₃ μ₃ ρ σ₃ t _ _ E he hA P₃.st h4 fun vt k₄ tk₄ X₄ μ₄ P₄ R₄ => ?_
            exact op_slice (P₄.st.hp hA) (P₄.rv P₃.st (P₃.rv P₂.st (P₂.rv P.st R))) (P₄.rv P₃.st (P₃.rv P₂.st R₂)) (P₄.rv P₃.st R₃) R₄ h5 hsub
              fun v' k₅ tk₅ k R' => hQ v' k₅ tk₅ X₄ μ₄ ((((P.trans P₂).trans P₃).trans P₄).trans (Post.of_keeps P₄.st k)) R'
          · cases hd
end
end Mine
end

section
set_option autoImplicit false
set_option Elab.async false
set_option maxRecDepth 100000
namespace Mine

-- comparisons ------------------------------------------------------------------------------------------------------------------
noncomputable def ltV : V → V → Sto → Option V
  | .int a, .int b, _ => some (.bool (decide (a < b)))
  | _, _, _ => none
noncomputable def gtV : V → V → Sto → Option V
  | .int a, .int b, _ => some (.bool (decide (b < a)))
  | _, _, _ => none
noncomputable def leV : V → V → Sto → Option V
  | .int a, .int b, _ => some (.bool (decide (a ≤ b)))
  | _, _, _ => none
noncomputable def geV : V → V → Sto → Option V
  | .int a, .int b, _ => some (.bool (decide (b ≤ a)))
  | _, _, _ => none
noncomputable def isV : V → V → Sto → Option V
  | .int _, .none, _ => some (.bool false)
  | .none, .none, _ => some (.bool true)
  | _, _, _ => none

noncomputable def toPyL (f : V → Option PyData) : List V → Option (List PyData)
  | [] => some []
  | x :: xs => match f x with
    | none => none
    | some d => match toPyL f xs with
      | none => none
      | some ds => some (d :: ds)
noncomputable def toPy : Nat → V → Option PyData
  | _, .none => some .none
  | _, .bool b => some (.bool b)
  | _, .int i => some (.int i)
  | n + 1, .tup xs => match toPyL (toPy n) xs with
    | some ds => some (.tuple ds)
    | none => none
  | n + 1, .lst xs => match toPyL (toPy n) xs with
    | some ds => some (.list ds)
    | none => none
  | _, _ => none
noncomputable def eqB (a b : V) : Option Bool := match toPy 6 a with
  | none => none
  | some d => match toPy 6 b with
    | none => none
    | some e => some (PyData.eqv d e)
noncomputable def eqV (a b : V) (_ : Sto) : Option V := match eqB a b with
  | some c => some (.bool c)
  | none => none
noncomputable def neV (a b : V) (_ : Sto) : Option V := match eqB a b with
  | some c => some (.bool (!c))
  | none => none
noncomputable def intsOf : List V → Option (List Int)
  | [] => some []
  | .int i :: r => match intsOf r with
    | some ns => some (i :: ns)
    | none => none
  | _ => none
noncomputable def memI (k : Int) : List Int → Bool
  | [] => false
  | a :: r => match Int.decEq a k with
    | .isTrue _ => true
    | .isFalse _ => memI k r
noncomputable def notInV : V → V → Sto → Option V
  | .int k, .lst xs, _ => match intsOf xs with
    | some ns => some (.bool (!memI k ns))
    | none => none
  | _, _, _ => none
noncomputable def inV : V → V → Sto → Option V
  | .tup ks, .loc n, σ => match nthS σ n with
    | some (.dict es) => match keyOf ks with
      | some k => match dget es k with
        | some _ => some (.bool true)
        | none => some (.bool false)
      | none => none
    | _ => none
  | _, _, _ => none

section
variable {C : Cx} {h : Heap} {X μ : List Addr}

theorem toPyL_reads {n : Nat} (ih : ∀ (x : V) (d : PyData) (v : Value), toPy n x = some d → RF C.prog C.w h X v x → (∃ as, Reads h v d as) ∧ d.canLay0 = true ∧ d.depth ≤ n) :
    ∀ (xs : List V) (ds : List PyData) (vs : List Value), toPyL (toPy n) xs = some ds → RFs C h X vs xs → (∃ as, ReadsAll h vs ds as) ∧ PyData.canLayAll0 ds = true ∧ PyData.depthAll ds ≤ n
  | [], ds, vs, e, r => by
    cases e
    rw [r.unnil]
    exact ⟨⟨_, .nil⟩, rfl, Nat.zero_le _⟩
  | x :: xs, ds, vs, e, r => by
    obtain ⟨v, ws, rfl, r1, r2⟩ := r.uncons
    simp only [toPyL] at e
    split at e
    · cases e
    · rename_i d hd
      split at e
      · cases e
      · rename_i ds' hds
        cases e
        obtain ⟨⟨as, h1⟩, h2, h3⟩ := ih x d v hd r1
        obtain ⟨⟨bs, h4⟩, h5, h6⟩ := toPyL_reads ih xs ds' ws hds r2
        refine ⟨⟨_, .cons h1 h4⟩, ?_, ?_⟩
        · simp [PyData.canLayAll0, h2, h5]
        · simp only [PyData.depthAll]
          exact Nat.max_le.mpr ⟨h3, h6⟩
theorem toPy_reads : ∀ (n : Nat) (x : V) (d : PyData) (v : Value), toPy n x = some d → RF C.prog C.w h X v x → (∃ as, Reads h v d as) ∧ d.canLay0 = true ∧ d.depth ≤ n := by
  intro n
  induction n with
  | zero =>
    intro x d v e r
    cases x <;> simp only [toPy] at e <;> cases e
    · cases r; exact ⟨⟨_, .none⟩, rfl, Nat.zero_le _⟩
    · cases r; exact ⟨⟨_, .bool _⟩, rfl, Nat.zero_le _⟩
    · cases r; exact ⟨⟨_, .int _ _⟩, rfl, Nat.zero_le _⟩
  | succ n ih =>
    intro x d v e r
    cases x with
    | none => cases e; cases r; exact ⟨⟨_, .none⟩, rfl, Nat.zero_le _⟩
    | bool b => cases e; cases r; exact ⟨⟨_, .bool _⟩, rfl, Nat.zero_le _⟩
    | int i => cases e; cases r; exact ⟨⟨_, .int _ _⟩, rfl, Nat.zero_le _⟩
    | tup xs =>
      simp only [toPy] at e
      split at e
      · rename_i ds hds
        cases e
        cases r with
        | @tup a vs _ hl ha hn hi =>
          obtain ⟨⟨as, h1⟩, h2, h3⟩ := toPyL_reads ih xs ds vs hds ⟨hn, hi⟩
          obtain ⟨o, ho, hc, m, hd⟩ := hl
          refine ⟨⟨_, .tuple ho hc hd (by simpa using h1)⟩, ?_, ?_⟩
          · simpa [PyData.canLay0] using h2
          · simp only [PyData.depth]; omega
      · cases e
    | lst xs =>
      simp only [toPy] at e
      split at e
      · rename_i ds hds
        cases e
        cases r with
        | @lst a vs _ hl ha hn hi =>
          obtain ⟨⟨as, h1⟩, h2, h3⟩ := toPyL_reads ih xs ds vs hds ⟨hn, hi⟩
          obtain ⟨m, ho⟩ := hl
          refine ⟨⟨_, .list ho rfl rfl (by simpa using h1)⟩, ?_, ?_⟩
          · simpa [PyData.canLay0] using h2
          · simp only [PyData.depth]; omega
      · cases e
    | _ => simp only [toPy] at e; cases e
theorem toPy_notLoc {n : Nat} {x : V} {d : PyData} (e : toPy n x = some d) : x.isLoc = false := by
  cases x with
  | loc m => cases n <;> simp [toPy] at e
  | _ => rfl
theorem eq_data {n : Nat} {x : V} {d : PyData} {v : Value} (hn : n ≤ 64) (e : toPy n x = some d) (r : RV C.prog C.w h X μ v x) : ∃ as, Reads h v d as ∧ SeqAt.shaped d = true := by
  obtain ⟨⟨as, h1⟩, h2, h3⟩ := toPy_reads n x d v e (r.toRF (toPy_notLoc e))
  refine ⟨as, h1, ?_⟩
  unfold SeqAt.shaped
  rw [h2, decide_eq_true (Nat.le_trans h3 hn)]
  rfl

theorem intsAre : ∀ {xs : List V} {ns : List Int} {vs : List Value}, intsOf xs = some ns → RFs C h X vs xs → IntsAre vs ns
  | [], ns, vs, e, r => by
    cases e
    rw [r.unnil]
    exact .nil
  | x :: xs, ns, vs, e, r => by
    obtain ⟨v, ws, rfl, r1, r2⟩ := r.uncons
    cases x with
    | int i =>
      simp only [intsOf] at e
      split at e
      · rename_i ns' hk
        cases e
        obtain ⟨t, rfl⟩ := RV.int (μ := []) (C := C) (h := h) (X := X) r1
        exact .cons _ _ (intsAre hk r2)
      · cases e
    | _ => cases e
theorem memI_any (k : Int) : ∀ {ns : List Int} {vs : List Value}, IntsAre vs ns → vs.any (isInt k) = memI k ns
  | _, _, .nil => rfl
  | _, _, .cons i t r => by
    simp only [List.any_cons, memI]
    rw [memI_any k r]
    split
    · rename_i e _; subst e; simp [isInt]
    · rename_i e _; simp [isInt, e]
end

section
variable {C : Cx}
theorem op_lt : Op2 C (compareOp .Lt) ltV := by
  intro A s X μ σ v w u x r Q E H hv hw hf hQ
  unfold ltV at hf
  split at hf
  · obtain ⟨t, rfl⟩ := hv.int
    obtain ⟨t', rfl⟩ := hw.int
    cases hf
    exact PyProof.Rows.lt_int (hQ _ s.heap s.toks (fun _ _ e => e) .mkBool)
  · cases hf
theorem op_gt : Op2 C (compareOp .Gt) gtV := by
  intro A s X μ σ v w u x r Q E H hv hw hf hQ
  unfold gtV at hf
  split at hf
  · obtain ⟨t, rfl⟩ := hv.int
    obtain ⟨t', rfl⟩ := hw.int
    cases hf
    exact PyProof.Rows.gt_int (hQ _ s.heap s.toks (fun _ _ e => e) .mkBool)
  · cases hf
theorem op_le : Op2 C (compareOp .LtE) leV := by
  intro A s X μ σ v w u x r Q E H hv hw hf hQ
  unfold leV at hf
  split at hf
  · obtain ⟨t, rfl⟩ := hv.int
    obtain ⟨t', rfl⟩ := hw.int
    cases hf
    exact PyProof.Rows.le_int (hQ _ s.heap s.toks (fun _ _ e => e) .mkBool)
  · cases hf
theorem op_ge : Op2 C (compareOp .GtE) geV := by
  intro A s X μ σ v w u x r Q E H hv hw hf hQ
  unfold geV at hf
  split at hf
  · obtain ⟨t, rfl⟩ := hv.int
    obtain ⟨t', rfl⟩ := hw.int
    cases hf
    exact PyProof.Rows.ge_int (hQ _ s.heap s.toks (fun _ _ e => e) .mkBool)
  · cases hf
theorem op_is : Op2 C (compareOp .Is) isV := by
  intro A s X μ σ v w u x r Q E H hv hw hf hQ
  unfold isV at hf
  split at hf
  · obtain ⟨t, rfl⟩ := hv.int
    obtain rfl := hw.invNone
    cases hf
    exact wpAny_is_plain rfl (hQ _ s.heap s.toks (fun _ _ e => e) .mkBool)
  · obtain rfl := hv.invNone
    obtain rfl := hw.invNone
    cases hf
    exact wpAny_is_plain rfl (hQ _ s.heap s.toks (fun _ _ e => e) .mkBool)
  · cases hf
theorem op_eq : Op2 C (compareOp .Eq) eqV := by
  intro A s X μ σ v w u x r Q E H hv hw hf hQ
  unfold eqV eqB at hf
  split at hf
  · rename_i c hc
    cases hf
    split at hc
    · cases hc
    · rename_i d hd
      split at hc
      · cases hc
      · rename_i e he
        cases hc
        obtain ⟨as, r1, s1⟩ := eq_data (by decide) hd hv
        obtain ⟨bs, r2, s2⟩ := eq_data (by decide) he hw
        exact eq_dataH r1 r2 s1 s2 (by have := H.units; omega) (hQ _ s.heap s.toks (fun _ _ e => e) .mkBool)
  · cases hf
theorem op_ne : Op2 C (compareOp .NotEq) neV := by
  intro A s X μ σ v w u x r Q E H hv hw hf hQ
  unfold neV eqB at hf
  split at hf
  · rename_i c hc
    cases hf
    split at hc
    · cases hc
    · rename_i d hd
      split at hc
      · cases hc
      · rename_i e he
        cases hc
        obtain ⟨as, r1, s1⟩ := eq_data (by decide) hd hv
        obtain ⟨bs, r2, s2⟩ := eq_data (by decide) he hw
        exact ne_dataH r1 r2 s1 s2 (by have := H.units; omega) (hQ _ s.heap s.toks (fun _ _ e => e) .mkBool)
  · cases hf
theorem op_notIn : Op2 C (compareOp .NotIn) notInV := by
  intro A s X μ σ v w u x r Q E H hv hw hf hQ
  unfold notInV at hf
  split at hf
  · rename_i k xs
    obtain ⟨t, rfl⟩ := hv.int
    obtain ⟨l, vs, rfl, hl, ha, hr⟩ := hw.lst
    split at hf
    · rename_i ns hns
      cases hf
      have hi := intsAre hns hr
      refine SeqInW.notIn_listW (isInt k) (fun y hy => eq_isInt k t hi y (by simpa using hy)) hl.isList ?_
      have e : vs.toArray.any (isInt k) = memI k ns := by rw [List.any_toArray]; exact memI_any k hi
      rw [e]
      exact hQ _ s.heap s.toks (fun _ _ e => e) .mkBool
    · cases hf
  · cases hf
theorem op_in : Op2 C (compareOp .In) inV := by
  intro A s X μ σ v w u x r Q E H hv hw hf hQ
  have room : A.in1.units < cLine := by have := H.units; show A.units + 1 < cLine; omega
  unfold inV at hf
  split at hf
  · rename_i ks n
    obtain ⟨l, vs, rfl, hl, ha, hr⟩ := hv.tup
    obtain ⟨a, rfl, hμ⟩ := hw
    split at hf
    · rename_i es hn
      have hob := H.sto.obj n a _ hμ (nthS_eq _ _ _ hn)
      cases hob with
      | @dict ys _ hd hsm hy hk hi =>
        split at hf
        · rename_i k hkk
          split at hf
          · rename_i r' hr'
            cases hf
            obtain ⟨i, y, e, h1, h2, h3, h4⟩ := dget_at hk hr'
            refine wpAny_in_heap room (isKey hl hkk hr) hsm hd ?_
            rw [h4]
            exact hQ _ s.heap _ (fun _ _ e => e) .mkBool
          · rename_i hr'
            cases hf
            refine wpAny_in_heap room (isKey hl hkk hr) hsm hd ?_
            rw [dget_none hk hr']
            exact hQ _ s.heap _ (fun _ _ e => e) .mkBool
        · cases hf
    · cases hf
  · cases hf
end

-- built-in calls -------------------------------------------------------------------------------------------------------------
noncomputable def lenV : List V → Sto → Option V
  | [.lst xs], _ => match Nat.ble xs.length 100000 with
    | true => some (.int xs.length)
    | false => none
  | [.loc n], σ => match nthS σ n with
    | some (.list xs) => match Nat.ble xs.length 100000 with
      | true => some (.int xs.length)
      | false => none
    | _ => none
  | _, _ => none
noncomputable def absV : List V → Sto → Option V
  | [.int a], _ => some (.int a.natAbs)
  | _, _ => none
noncomputable def minV : List V → Sto → Option V
  | [.int a, .int b], _ => some (match decide (b < a) with | true => .int b | false => .int a)
  | _, _ => none
noncomputable def maxV : List V → Sto → Option V
  | [.int a, .int b], _ => some (match decide (a < b) with | true => .int b | false => .int a)
  | _, _ => none
noncomputable def sumI : List Int → Int
  | [] => 0
  | a :: r => a + sumI r
noncomputable def sumV : List V → Sto → Option V
  | [.lst xs], _ => match intsOf xs with
    | some ns => some (.int (sumI ns))
    | none => none
  | _, _ => none
noncomputable def tupleV : List V → Sto → Option V
  | [.lst xs], _ => match Nat.ble xs.length 100000 with
    | true => some (.tup xs)
    | false => none
  | _, _ => none
noncomputable def listV : List V → Sto → Option V
  | [.lst xs], _ => match Nat.ble xs.length 100000 with
    | true => some (.lst xs)
    | false => none
  | _, _ => none
noncomputable def intV : List V → Sto → Option V
  | [.int a], _ => some (.int a)
  | _, _ => none
noncomputable def rangeV : List V → Sto → Option V
  | [.int a], _ => some (.rng 0 a 1)
  | [.int a, .int b], _ => some (.rng a b 1)
  | [.int a, .int b, .int (.negSucc 0)], _ => some (.rng a b (-1))
  | _, _ => none

section
variable {C : Cx}
theorem le_of_ble {n : Nat} (h : Nat.ble n 100000 = true) : n ≤ sizeLine := by
  have := Nat.le_of_ble_eq_true h
  have : sizeLine = 16777216 := rfl
  omega
theorem lt_of_ble {n : Nat} (h : Nat.ble n 100000 = true) : (n : Int) < 2 ^ 63 := by
  have := Nat.le_of_ble_eq_true h
  omega
theorem opN_len : OpN C (fun vs => call (.builtin "len") vs) lenV := by
  intro A s X μ σ vs us r Q E H hv hf hQ
  unfold lenV at hf
  split at hf
  · rename_i xs
    obtain ⟨v, ws, rfl, h1, h2⟩ := hv.uncons
    obtain rfl := h2.unnil
    obtain ⟨l, vs, rfl, hl, ha, hr⟩ := h1.lst
    split at hf
    · rename_i hle
      cases hf
      refine len_list hl.isList (by rw [List.size_toArray, hr.1]; exact lt_of_ble hle) ?_
      rw [List.size_toArray, hr.1]
      exact hQ _ s.heap _ (fun _ _ e => e) .mkInt
    · cases hf
  · rename_i n
    obtain ⟨v, ws, rfl, h1, h2⟩ := hv.uncons
    obtain rfl := h2.unnil
    obtain ⟨a, rfl, hμ⟩ := h1
    split at hf
    · rename_i xs hn
      have hob := H.sto.obj n a _ hμ (nthS_eq _ _ _ hn)
      split at hf
      · rename_i hle
        cases hf
        cases hob with
        | @list vs _ hl hlen hi =>
          refine len_list hl.isList (by rw [List.size_toArray, hlen]; exact lt_of_ble hle) ?_
          rw [List.size_toArray, hlen]
          exact hQ _ s.heap _ (fun _ _ e => e) .mkInt
      · cases hf
    · cases hf
  · cases hf
theorem opN_abs : OpN C (fun vs => call (.builtin "abs") vs) absV := by
  intro A s X μ σ vs us r Q E H hv hf hQ
  unfold absV at hf
  split at hf
  · rename_i a
    obtain ⟨v, ws, rfl, h1, h2⟩ := hv.uncons
    obtain rfl := h2.unnil
    obtain ⟨t, rfl⟩ := h1.int
    cases hf
    refine call_abs_int fun u tk => ?_
    have e : (if a < 0 then -a else a) = (a.natAbs : Int) := by split <;> omega
    rw [e]
    exact hQ _ s.heap _ (fun _ _ e => e) .mkInt
  · cases hf
theorem opN_min : OpN C (fun vs => call (.builtin "min") vs) minV := by
  intro A s X μ σ vs us r Q E H hv hf hQ
  unfold minV at hf
  split at hf
  · rename_i a b
    obtain ⟨v, ws, rfl, h1, h2⟩ := hv.uncons
    obtain ⟨v', ws', rfl, h3, h4⟩ := h2.uncons
    obtain rfl := h4.unnil
    obtain ⟨t, rfl⟩ := h1.int
    obtain ⟨t', rfl⟩ := h3.int
    cases hf
    refine min_two_ints H.handled fun h' tk hk => ?_
    split
    · rename_i c
      refine hQ _ h' tk hk ?_
      rw [decide_eq_true c]; exact .mkInt
    · rename_i c
      refine hQ _ h' tk hk ?_
      rw [decide_eq_false c]; exact .mkInt
  · cases hf
theorem opN_max : OpN C (fun vs => call (.builtin "max") vs) maxV := by
  intro A s X μ σ vs us r Q E H hv hf hQ
  unfold maxV at hf
  split at hf
  · rename_i a b
    obtain ⟨v, ws, rfl, h1, h2⟩ := hv.uncons
    obtain ⟨v', ws', rfl, h3, h4⟩ := h2.uncons
    obtain rfl := h4.unnil
    obtain ⟨t, rfl⟩ := h1.int
    obtain ⟨t', rfl⟩ := h3.int
    cases hf
    refine max_two_ints H.handled fun h' tk hk => ?_
    split
    · rename_i c
      refine hQ _ h' tk hk ?_
      have c' : a < b := c
      rw [decide_eq_true c']; exact .mkInt
    · rename_i c
      refine hQ _ h' tk hk ?_
      have c' : ¬ a < b := c
      rw [decide_eq_false c']; exact .mkInt
  · cases hf

theorem pairs_of : ∀ {vs : List Value} {ns : List Int}, IntsAre vs ns → ∃ ps : List (Int × Tok), vs = ps.map (fun p => Value.int p.1 p.2) ∧ ps.map (·.1) = ns
  | _, _, .nil => ⟨[], rfl, rfl⟩
  | _, _, .cons i t r => by
    obtain ⟨ps, e1, e2⟩ := pairs_of r
    exact ⟨(i, t) :: ps, by simp [e1], by simp [e2]⟩
theorem sumI_eq (ns : List Int) : sumI ns = ns.sum := by
  induction ns with
  | nil => rfl
  | cons a r ih => simp [sumI, ih]
theorem opN_sum : OpN C (fun vs => call (.builtin "sum") vs) sumV := by
  intro A s X μ σ vs us r Q E H hv hf hQ
  unfold sumV at hf
  split at hf
  · rename_i xs
    obtain ⟨v, ws, rfl, h1, h2⟩ := hv.uncons
    obtain rfl := h2.unnil
    obtain ⟨l, vs, rfl, hl, ha, hr⟩ := h1.lst
    split at hf
    · rename_i ns hns
      cases hf
      obtain ⟨ps, e1, e2⟩ := pairs_of (intsAre hns hr)
      have hl' : s.heap.IsList l (intItems ps.toArray) := by
        have : intItems ps.toArray = vs.toArray := by rw [e1]; simp [intItems]
        rw [this]
        exact hl.isList
      refine sum_intListG H.handled hl' fun h' tk t' hk => ?_
      have e : preSum (numAt ps.toArray) ps.toArray.size = sumI ns := by
        have q : (numAt ps.toArray) = fun i => ns.getD i 0 := by
          funext i
          rw [← e2]
          simp [numAt, List.getD]
        rw [q, preSum_getD, sumI_eq, ← e2, List.take_of_length_le (by simp)]
      rw [e]
      exact hQ _ h' tk hk .mkInt
    · cases hf
  · cases hf
theorem opN_int : OpN C (fun vs => call (.type "int") vs) intV := by
  intro A s X μ σ vs us r Q E H hv hf hQ
  unfold intV at hf
  split at hf
  · rename_i a
    obtain ⟨v, ws, rfl, h1, h2⟩ := hv.uncons
    obtain rfl := h2.unnil
    obtain ⟨t, rfl⟩ := h1.int
    cases hf
    exact call_int_int (hQ _ s.heap s.toks (fun _ _ e => e) .mkInt)
  · cases hf
theorem opN_tup : OpN C (fun vs => call (.type "tuple") vs) tupleV := by
  intro A s X μ σ vs us r Q E H hv hf hQ
  unfold tupleV at hf
  split at hf
  · rename_i xs
    obtain ⟨v, ws, rfl, h1, h2⟩ := hv.uncons
    obtain rfl := h2.unnil
    obtain ⟨l, vs, rfl, hl, ha, hr⟩ := h1.lst
    split at hf
    · rename_i hle
      cases hf
      refine call_tuple_list hl.isList (fun h' hk => ?_) (by rw [List.size_toArray, hr.1]; exact le_of_ble hle)
      have k2 : ∀ b o, s.heap.get? b = some o → (h'.push { cls := .type "tuple", data := .seq vs.toArray }).get? b = some o := fun b o e => push_keeps _ _ _ _ (hk b o e)
      refine hQ _ _ s.toks k2 (RV.newTup k2 H.there ?_ ⟨_, Heap.get?_push_size _ rfl, rfl, 0, rfl⟩ hr)
      exact none_back (fun a e => isSome_of_keeps hk e) (get?_size h')
    · cases hf
  · cases hf
theorem opN_lst : OpN C (fun vs => call (.type "list") vs) listV := by
  intro A s X μ σ vs us r Q E H hv hf hQ
  unfold listV at hf
  split at hf
  · rename_i xs
    obtain ⟨v, ws, rfl, h1, h2⟩ := hv.uncons
    obtain rfl := h2.unnil
    obtain ⟨l, vs, rfl, hl, ha, hr⟩ := h1.lst
    split at hf
    · rename_i hle
      cases hf
      obtain ⟨n, ho⟩ := hl
      refine call_list_seq l (.inl rfl) ho rfl rfl (fun h' c' hk hD => ?_) (by rw [List.size_toArray, hr.1]; exact le_of_ble hle)
      exact hQ _ _ s.toks hk (RV.newLst hk H.there (get?_size _) ⟨c', hD⟩ hr)
    · cases hf
  · cases hf
theorem opN_range : OpN C (fun vs => call (.type "range") vs) rangeV := by
  intro A s X μ σ vs us r Q E H hv hf hQ
  unfold rangeV at hf
  split at hf
  · rename_i a
    obtain ⟨v, ws, rfl, h1, h2⟩ := hv.uncons
    obtain rfl := h2.unnil
    obtain ⟨t, rfl⟩ := h1.int
    cases hf
    exact call_range_1 (hQ _ _ _ (push_keeps _ _) (RF.rng (Heap.get?_push_size _ rfl) (new_notin H.there (get?_size _))))
  · rename_i a b
    obtain ⟨v, ws, rfl, h1, h2⟩ := hv.uncons
    obtain ⟨v', ws', rfl, h3, h4⟩ := h2.uncons
    obtain rfl := h4.unnil
    obtain ⟨t, rfl⟩ := h1.int
    obtain ⟨t', rfl⟩ := h3.int
    cases hf
    exact call_range_2 (hQ _ _ _ (push_keeps _ _) (RF.rng (Heap.get?_push_size _ rfl) (new_notin H.there (get?_size _))))
  · rename_i a b
    obtain ⟨v, ws, rfl, h1, h2⟩ := hv.uncons
    obtain ⟨v', ws', rfl, h3, h4⟩ := h2.uncons
    obtain ⟨v'', ws'', rfl, h5, h6⟩ := h4.uncons
    obtain rfl := h6.unnil
    obtain ⟨t, rfl⟩ := h1.int
    obtain ⟨t', rfl⟩ := h3.int
    obtain ⟨t'', rfl⟩ := h5.int
    cases hf
    exact call_range_3 (by decide) (hQ _ _ _ (push_keeps _ _) (RF.rng (Heap.get?_push_size _ rfl) (new_notin H.there (get?_size _)))) (.inl (PyProof.noPylong_small (by decide)))
  · cases hf
end
end Mine
end

section
set_option autoImplicit false
set_option Elab.async false
set_option maxRecDepth 100000
namespace Mine

section
variable {C : Cx} {dp : Nat} {sc : Scope}

theorem name_builtin (ok : C.Ok) {A : Around} {env : Env} {s : Shared} {X μ : List Addr} {ρ : Rho} {σ : Sto} {x : Str} {p : Pos} {v : Value} {Q : Value → Shared → Prop} {E : Value → Shared → Prop}
    (he : env.scope = sc) (hs : St C env s.heap X μ ρ σ) (hk : sc.names.lookup x = some .globalImplicit) (hd : (x == Str.ofString "__debug__") = false) (hm : C.mg x = none) (hn : x ≠ Str.ofString "__name__")
    (hb : bootBuiltins x = some v) (hQ : Q v s) : wpAny (model C.prog C.w) A (eval (.Name x p) env) Q E s := by
  refine Calls.Name_function_global hs.envOk.kind (by unfold Env.kindOf; rw [he]; exact hk) (Calls.loadGlobal_builtin (mg := C.mg) (mb := C.mb) ?_ hm ?_ ((ok.builtins x hn).trans hb) hQ) hd
  · rw [hs.envOk.glob]; exact ok.g.keeps hs.keep
  · rw [hs.envOk.blt]; exact ok.b.keeps hs.keep

theorem SE_callB (ok : C.Ok) {x : Str} {id : String} {f : List V → Sto → Option V} {e : Expr} {rest : List Expr} {ds : DL} {pos p : Pos} (hk : sc.names.lookup x = some .globalImplicit) (hd : (x == Str.ofString "__debug__") = false)
    (hm : C.mg x = none) (hn : x ≠ Str.ofString "__name__") (hb : bootBuiltins x = some (.builtin id)) (ho : OpN C (fun vs => call (.builtin id) vs) f)
    (hse : ∀ env pos, backTo pos (starEach (e :: rest) env) = (false, eval e env) :: backTo pos (starEach rest env)) (hpl : ∀ env pos, (backTo pos (starEach (e :: rest) env)).any (·.1) = false) (h : SL C dp sc (e :: rest) ds) :
    SE C dp sc (.Call (.Name x p) (e :: rest) [] pos) (opND f ds) := by
  intro A env s X μ ρ σ u σ' Q E he hA hs hdd hQ
  unfold opND at hdd
  split at hdd
  · cases hdd
  · rename_i as σ₁ h1
    split at hdd
    · rename_i c h2
      cases hdd
      refine wpAny_Call_NameR (name_builtin ok he hs hk hd hm hn hb ?_)
      refine Calls.callWith_builtin (hpl env pos) ?_
      rw [hse]
      refine Calls.evalArgs_plain ?_
      rw [← hse]
      refine h A env s X μ ρ σ as _ pos _ E he hA hs h1 fun vs h' tk X' μ' P R => ?_
      exact ho A { s with heap := h', toks := tk } X' μ' _ vs as _ _ E (P.st.hp hA) R h2 fun v' h'' tk' k R' => hQ v' h'' tk' X' μ' (P.trans (Post.of_keeps P.st k)) R'
    · cases hdd
theorem SE_callT (ok : C.Ok) {x : Str} {T : String} {f : List V → Sto → Option V} {e : Expr} {rest : List Expr} {ds : DL} {pos p : Pos} (hk : sc.names.lookup x = some .globalImplicit) (hd : (x == Str.ofString "__debug__") = false)
    (hm : C.mg x = none) (hn : x ≠ Str.ofString "__name__") (hb : bootBuiltins x = some (.type T)) (ho : OpN C (fun vs => call (.type T) vs) f)
    (hse : ∀ env pos, backTo pos (starEach (e :: rest) env) = (false, eval e env) :: backTo pos (starEach rest env)) (hpl : ∀ env pos, (backTo pos (starEach (e :: rest) env)).any (·.1) = false) (h : SL C dp sc (e :: rest) ds) :
    SE C dp sc (.Call (.Name x p) (e :: rest) [] pos) (opND f ds) := by
  intro A env s X μ ρ σ u σ' Q E he hA hs hdd hQ
  unfold opND at hdd
  split at hdd
  · cases hdd
  · rename_i as σ₁ h1
    split at hdd
    · rename_i c h2
      cases hdd
      refine wpAny_Call_NameR (name_builtin ok he hs hk hd hm hn hb ?_)
      refine PyProof.Rows.callWith_type (hpl env pos) ?_
      rw [hse]
      refine Calls.evalArgs_plain ?_
      rw [← hse]
      refine h A env s X μ ρ σ as _ pos _ E he hA hs h1 fun vs h' tk X' μ' P R => ?_
      exact ho A { s with heap := h', toks := tk } X' μ' _ vs as _ _ E (P.st.hp hA) R h2 fun v' h'' tk' k R' => hQ v' h'' tk' X' μ' (P.trans (Post.of_keeps P.st k)) R'
    · cases hdd
end

-- a change of one object of the store ------------------------------------------------------------------------------------------
noncomputable def setS : Sto → Nat → SO → Sto
  | [], _, _ => []
  | _ :: r, 0, o => some o :: r
  | p :: r, n + 1, o => p :: setS r n o
theorem setS_get : ∀ (σ : Sto) (n m : Nat) (o : SO), (setS σ n o)[m]? = if n = m then (σ[m]?).map (fun _ => some o) else σ[m]?
  | [], n, m, o => by simp [setS]
  | p :: r, 0, m, o => by
    cases m with
    | zero => simp [setS]
    | succ m => simp [setS]
  | p :: r, n + 1, m, o => by
    cases m with
    | zero => simp [setS]
    | succ m => simp only [setS, List.getElem?_cons_succ, setS_get r n m o, Nat.add_right_cancel_iff]
theorem setS_len : ∀ (σ : Sto) (n : Nat) (o : SO), (setS σ n o).length = σ.length
  | [], _, _ => rfl
  | _ :: _, 0, _ => rfl
  | _ :: r, n + 1, o => by simp [setS, setS_len r n o]

theorem idx_unique {μ : List Addr} (hn : μ.Nodup) {n m : Nat} {a : Addr} (h1 : μ[n]? = some a) (h2 : μ[m]? = some a) : n = m :=
  (List.getElem?_inj (List.getElem?_eq_some_iff.mp h1).1 hn).mp (h1.trans h2.symm)

theorem live_setS {μ : List Addr} {σ : Sto} {n : Nat} {o' : SO} {b : Addr} (o : SO) (hσ : σ[n]? = some (some o)) : Live μ (setS σ n o') b → Live μ σ b := by
  rintro ⟨m, p, h1, h2⟩
  rw [setS_get] at h2
  by_cases c : n = m
  · subst c
    exact ⟨n, o, h1, hσ⟩
  · rw [if_neg c] at h2
    exact ⟨m, p, h1, h2⟩

section
variable {C : Cx} {env : Env} {h h' : Heap} {X μ : List Addr} {ρ : Rho} {σ : Sto} {n : Nat} {a : Addr} {o o' : SO}

theorem VarIs.sameBut {x : Str} {v : Value} (hs : Heap.SameBut a h h') (hl : env.locals ≠ a) (hc : ∀ x c, env.cells.lookup x = some c → c ≠ a) (r : VarIs env h x v) : VarIs env h' x v := by
  rcases r with ⟨e, m, hn, hv⟩ | ⟨e, c, hcc, hv⟩
  · exact .inl ⟨e, m, hn.sameBut hs hl, hv⟩
  · exact .inr ⟨e, c, hcc, hv.sameBut hs (hc x c hcc)⟩

theorem Post.mut (s : St C env h X μ ρ σ) (hμ : μ[n]? = some a) (hσ : σ[n]? = some (some o)) (hs : Heap.SameBut a h h') (ho : (h'.get? a).isSome) (hr : RO C.prog C.w h' X μ a o') :
    Post C env ρ h X μ σ h' X μ (setS σ n o') := by
  have la : Live μ σ a := ⟨n, o, hμ, hσ⟩
  have hX := s.sto.inX a la
  have stay : Stay h X h' X := fun b q nb e => ⟨(hs.2 b (fun e' => nb (e' ▸ hX))).trans e, nb⟩
  have hl : env.locals ≠ a := fun e => s.envOk.locP (e ▸ la)
  have hc : ∀ x c, env.cells.lookup x = some c → c ≠ a := fun x c e q => (s.envOk.cell x c e).2.2.2 (q ▸ la)
  have there : ∀ b, (h.get? b).isSome → (h'.get? b).isSome := fun b e => by
    by_cases q : b = a
    · subst q; exact ho
    · rw [hs.2 b q]; exact e
  refine ⟨⟨?_, s.new, fun b m => there b (s.there b m), ⟨s.envOk.kind, s.envOk.glob, s.envOk.blt, ?_, s.envOk.locX, s.envOk.hasCell, ?_, s.envOk.inj, ?_⟩, ?_, ⟨?_, s.sto.nodup, fun b m => there b (s.sto.there b m), ?_, ?_⟩⟩, ⟨?_, there, fun b m => .inl m⟩, ⟨[], by simp, fun _ m => nomatch m⟩, ?_, fun _ m _ _ => m⟩
  · intro b q e
    exact (hs.2 b (fun e' => by have := s.new a hX; rw [← e', e] at this; cases this)).trans (s.keep b q e)
  · obtain ⟨m, hm⟩ := s.envOk.locals
    exact ⟨m, hm.sameBut hs hl⟩
  · intro x c e
    obtain ⟨h1, h2, ⟨v, hv⟩, h4⟩ := s.envOk.cell x c e
    exact ⟨h1, h2, ⟨v, hv.sameBut hs (hc x c e)⟩, fun q => h4 (live_setS o hσ q)⟩
  · exact fun q => s.envOk.locP (live_setS o hσ q)
  · intro i x u e1 e2 e3
    obtain ⟨v, hv, hr⟩ := s.vars i x u e1 e2 e3
    exact ⟨v, hv.sameBut hs hl hc, hr.stay0 stay⟩
  · rw [setS_len]; exact s.sto.len
  · exact fun b q => s.sto.inX b (live_setS o hσ q)
  · intro m b p e1 e2
    rw [setS_get] at e2
    by_cases c : n = m
    · subst c
      rw [if_pos rfl, hσ] at e2
      cases e2
      rw [hμ] at e1
      cases e1
      exact hr
    · rw [if_neg c] at e2
      have hb : b ≠ a := fun q => c (idx_unique s.sto.nodup hμ (q ▸ e1))
      exact (s.sto.obj m b p e1 e2).stay0 stay fun q e => (hs.2 b hb).trans e
  · exact fun b q nl e => (hs.2 b (fun e' => nl (e' ▸ la))).trans e
  · exact fun b q => .inl (live_setS o hσ q)
end
end Mine
end

section
set_option autoImplicit false
set_option Elab.async false
set_option maxRecDepth 100000
namespace Mine

section
variable {C : Cx} {env : Env} {h h' : Heap} {X X' μ wr : List Addr} {ρ : Rho} {σ : Sto}

/-- the addresses wr change, which are among those that may, or are new -/
theorem St.change (s : St C env h X μ ρ σ) (hk : ∀ b o, b ∉ wr → h.get? b = some o → h'.get? b = some o) (hw : ∀ b ∈ wr, b ∈ X ∨ h.get? b = none) (hl : env.locals ∉ wr) (hc : ∀ x c, env.cells.lookup x = some c → c ∉ wr)
    (hv : ∀ a ∈ μ, a ∉ wr) (hX1 : ∀ a ∈ X', a ∈ X ∨ h.get? a = none) (hX2 : ∀ a ∈ X, a ∉ wr → a ∈ X') (hX3 : ∀ a ∈ X', (h'.get? a).isSome) : St C env h' X' μ ρ σ := by
  have stay : Stay h X h' X' := fun a o n e => ⟨hk a o (fun m => (hw a m).elim n fun q => by rw [q] at e; cases e) e, fun m => (hX1 a m).elim n fun q => by rw [q] at e; cases e⟩
  have nb : ∀ b o, C.base.get? b = some o → b ∉ wr := fun b o e m => (hw b m).elim (fun q => by have := s.new b q; rw [e] at this; cases this) fun q => by have := s.keep b o e; rw [q] at this; cases this
  have hmem : ∀ a ∈ μ, ∀ o, h.get? a = some o → h'.get? a = some o := fun a m o e => hk a o (hv a m) e
  refine ⟨fun b o e => hk b o (nb b o e) (s.keep b o e), fun a m => ?_, hX3, ⟨s.envOk.kind, s.envOk.glob, s.envOk.blt, ?_, hX2 _ s.envOk.locX hl, s.envOk.hasCell, ?_, s.envOk.inj, s.envOk.locP⟩, ?_, ⟨s.sto.len, s.sto.nodup, fun a m => ?_, ?_, ?_⟩⟩
  · rcases hX1 a m with q | q
    · exact s.new a q
    · cases e : C.base.get? a with
      | none => rfl
      | some o => have := s.keep a o e; rw [q] at this; cases this
  · obtain ⟨m, hm⟩ := s.envOk.locals
    exact ⟨m, hm.at' fun o e => hk _ o hl e⟩
  · intro x c e
    obtain ⟨h1, h2, ⟨v, o, ho, hd⟩, h4⟩ := s.envOk.cell x c e
    exact ⟨hX2 c h1 (hc x c e), h2, ⟨v, o, hk c o (hc x c e) ho, hd⟩, h4⟩
  · intro i x u e1 e2 e3
    obtain ⟨v, hv', hr⟩ := s.vars i x u e1 e2 e3
    refine ⟨v, ?_, hr.stay0 stay⟩
    rcases hv' with ⟨k, m, hn, hx⟩ | ⟨k, c, hcc, o, ho, hd⟩
    · exact .inl ⟨k, m, hn.at' fun o e => hk _ o hl e, hx⟩
    · exact .inr ⟨k, c, hcc, o, hk c o (hc x c hcc) ho, hd⟩
  · obtain ⟨o, e⟩ := Option.isSome_iff_exists.mp (s.sto.there a m)
    rw [hmem a m o e]; rfl
  · rintro a ⟨n, o, h1, h2⟩
    exact hX2 a (s.sto.inX a ⟨n, o, h1, h2⟩) (hv a (List.mem_of_getElem? h1))
  · intro n a o h1 h2
    exact (s.sto.obj n a o h1 h2).stay0 stay fun q e => hmem a (List.mem_of_getElem? h1) q e
end

/-- an iterator at hand; S X h xs: in the heap h it has xs still to hand out -/
structure Itr (C : Cx) (A : Around) (I : Addr) (wr : List Addr) (tgt : Expr) (S : List Addr → Heap → List V → Prop) : Prop where
  frame : ∀ X h xs X' h', S X h xs → Stay h X h' X' → (∀ b ∈ wr, ∀ o, h.get? b = some o → h'.get? b = some o) → S X' h' xs
  item : ∀ X (s : Shared) x xs (Q : Option Value → Shared → Prop) (E : Value → Shared → Prop), S X s.heap (x :: xs) → (∀ b ∈ wr, b ∈ X) → (∀ a ∈ X, (s.heap.get? a).isSome) →
    (∀ v h' tk, (∀ b o, b ∉ wr → s.heap.get? b = some o → h'.get? b = some o) → (∀ b, (s.heap.get? b).isSome → (h'.get? b).isSome) → RF C.prog C.w h' X v x →
      (∀ Q₂ : Unit → Shared → Prop, (∀ h'', (∀ b o, b ∉ wr → s.heap.get? b = some o → h''.get? b = some o) → (∀ b, (s.heap.get? b).isSome → (h''.get? b).isSome) → RF C.prog C.w h'' X v x → S X h'' xs → Q₂ () { s with heap := h'', toks := tk }) →
        wpAny (model C.prog C.w) A (letOwnedTupleGo tgt (.ref I) v) Q₂ E { s with heap := h', toks := tk }) →
      Q (some v) { s with heap := h', toks := tk }) →
    wpAny (model C.prog C.w) A (pyNext (.ref I)) Q E s
  done : ∀ X (s : Shared) (Q : Option Value → Shared → Prop) (E : Value → Shared → Prop), S X s.heap [] →
    (∀ h' tk, (∀ b o, b ∉ wr → s.heap.get? b = some o → h'.get? b = some o) → Q none { s with heap := h', toks := tk }) → wpAny (model C.prog C.w) A (pyNext (.ref I)) Q E s
  self : ∀ X (s : Shared) xs (Q : Value → Shared → Prop) (E : Value → Shared → Prop), S X s.heap xs → Q (.ref I) s → wpAny (model C.prog C.w) A (pyIter (.ref I)) Q E s

/-- a target that is no tuple, or an iterator that hands out nothing of its own -/
noncomputable def Plain (tgt : Expr) : Prop := ∀ it v, letOwnedTupleGo tgt it v = pure ()

theorem sameBut_there {h h' : Heap} {a : Addr} (hs : Heap.SameBut a h h') (ha : (h'.get? a).isSome) : ∀ b, (h.get? b).isSome → (h'.get? b).isSome := fun b e => by
  by_cases q : b = a
  · subst q; exact ha
  · rw [hs.2 b q]; exact e

section
variable {C : Cx} {A : Around}

noncomputable def SList (C : Cx) (I l : Addr) (X : List Addr) (h : Heap) (xs : List V) : Prop := ∃ (i : Nat) (vs : List Value), h.IsListIter I l i ∧ h.PlainList l vs.toArray ∧ l ∉ X ∧ RFs C h X (vs.drop i) xs

theorem drop_uncons {α : Type} {vs ws : List α} {i : Nat} {v : α} (e : vs.drop i = v :: ws) : vs[i]? = some v ∧ vs.drop (i + 1) = ws := by
  constructor
  · have : (vs.drop i)[0]? = some v := by rw [e]; rfl
    rw [List.getElem?_drop] at this
    simpa using this
  · rw [← List.drop_drop, e]; rfl
theorem drop_unnil {α : Type} {vs : List α} {i : Nat} (e : vs.drop i = []) : vs[i]? = none := by
  rw [List.drop_eq_nil_iff] at e
  exact List.getElem?_eq_none e

theorem Itr.list (hh : A.handled = none) {I l : Addr} (hne : l ≠ I) (tgt : Expr) : Itr C A I [I] tgt (SList C I l) where
  frame := by
    rintro X h xs X' h' ⟨i, vs, h1, h2, h3, h4⟩ st hk
    obtain ⟨n, e⟩ := h2
    obtain ⟨e', n'⟩ := st l _ h3 e
    exact ⟨i, vs, h1.at fun o e => hk I (List.mem_singleton.mpr rfl) o e, ⟨n, e'⟩, n', h4.stay st⟩
  item := by
    rintro X s x xs Q E ⟨i, vs, h1, h2, h3, h4⟩ hw ht hQ
    obtain ⟨v, ws, e, r1, r2⟩ := h4.uncons
    obtain ⟨e1, e2⟩ := drop_uncons e
    have hI := hw I (List.mem_singleton.mpr rfl)
    refine wpAny_pyNext_list_item h1 h2.isList (x := v) (by simpa using e1) fun h' hit hs => ?_
    have hk : ∀ b o, b ∉ [I] → s.heap.get? b = some o → h'.get? b = some o := fun b o nb e => (hs.2 b fun q => nb (List.mem_singleton.mpr q)).trans e
    have st : Stay s.heap X h' X := fun a o na e => ⟨hk a o (fun m => na (List.mem_singleton.mp m ▸ hI)) e, na⟩
    have th : ∀ b, (s.heap.get? b).isSome → (h'.get? b).isSome := sameBut_there hs (by obtain ⟨o, ho, _⟩ := hit; rw [ho]; rfl)
    obtain ⟨n, hl⟩ := id h2
    have hl' : h'.PlainList l vs.toArray := ⟨n, (hs.2 l hne).trans hl⟩
    refine hQ v h' s.toks hk th (r1.stay st) fun Q₂ h₂ => ?_
    have fin : Q₂ () { s with heap := h', toks := s.toks } := h₂ h' hk th (r1.stay st) ⟨i + 1, vs, hit, hl', h3, by rw [e2]; exact r2.stay st⟩
    unfold letOwnedTupleGo
    split
    · split
      · rename_i r a hm
        cases hm
        obtain ⟨o, ho, hc, hd⟩ := hit
        refine wpAny_bind (wpAny_load ho ?_)
        rw [hc, hd]
        exact wpAny_pure fin
      · exact wpAny_pure fin
    · split
      · rename_i r a hm
        cases hm
        obtain ⟨o, ho, hc, hd⟩ := hit
        refine wpAny_bind (wpAny_load ho ?_)
        rw [hc, hd]
        exact wpAny_pure fin
      · exact wpAny_pure fin
    · exact wpAny_pure fin
  done := by
    rintro X s Q E ⟨i, vs, h1, h2, h3, h4⟩ hQ
    refine wpAny_pyNext_list_end hh h1 h2.isList ?_ fun h' he => hQ h' s.toks fun b o nb e => he b o (fun q => nb (List.mem_singleton.mpr q)) e
    simpa using drop_unnil h4.unnil
  self := by
    rintro X s xs Q E ⟨i, vs, h1, h2, h3, h4⟩ hQ
    exact wpAny_pyIter_listiter h1 hQ

-- ranges -------------------------------------------------------------------------------------------------------------------
noncomputable def stepI (c : Int) : Int → Nat → List V
  | _, 0 => []
  | a, n + 1 => .int a :: stepI c (a + c) n
noncomputable def SRange (I : Addr) (c : Int) (_ : List Addr) (h : Heap) (xs : List V) : Prop := ∃ (x : Int) (n : Nat), IsRangeIter h I x n c ∧ xs = stepI c x n
theorem Itr.range (hh : A.handled = none) {I : Addr} {c : Int} {tgt : Expr} (hp : Plain tgt) : Itr C A I [I] tgt (SRange I c) where
  frame := by
    rintro X h xs X' h' ⟨x, n, h1, h2⟩ st hk
    exact ⟨x, n, hk I (List.mem_singleton.mpr rfl) _ h1, h2⟩
  item := by
    rintro X s x xs Q E ⟨y, n, h1, h2⟩ hw ht hQ
    cases n with
    | zero => cases h2
    | succ n =>
      simp only [stepI, List.cons.injEq] at h2
      obtain ⟨rfl, rfl⟩ := h2
      refine wpAny_pyNext_range_item h1 (by omega) fun h' hit hs => ?_
      have hk : ∀ b o, b ∉ [I] → s.heap.get? b = some o → h'.get? b = some o := fun b o nb e => (hs.2 b fun q => nb (List.mem_singleton.mpr q)).trans e
      have th : ∀ b, (s.heap.get? b).isSome → (h'.get? b).isSome := sameBut_there hs (by rw [show h'.get? I = _ from hit]; rfl)
      refine hQ _ h' _ hk th (.int _ _) fun Q₂ h₂ => ?_
      rw [hp]
      refine wpAny_pure (h₂ h' hk th (.int _ _) ⟨y + c, n, ?_, rfl⟩)
      have e : ((n + 1 : Nat) : Int) - 1 = (n : Int) := by omega
      rw [← e]; exact hit
  done := by
    rintro X s Q E ⟨x, n, h1, h2⟩ hQ
    cases n with
    | zero => exact wpAny_pyNext_range_end hh h1 (by omega) fun h' he => hQ h' s.toks fun b o nb e => he b o (fun q => nb (List.mem_singleton.mpr q)) e
    | succ n => cases h2
  self := by
    rintro X s xs Q E ⟨x, n, h1, h2⟩ hQ
    exact wpAny_pyIter_rangeiter h1 hQ

-- enumerate -----------------------------------------------------------------------------------------------------------------
noncomputable def enumI : Nat → List V → List V
  | _, [] => []
  | i, x :: xs => .tup [.int i, x] :: enumI (i + 1) xs
noncomputable def SEnum (C : Cx) (e it : Addr) (n : Nat) (St : Nat → Heap → Prop) (P : Nat → Value → Prop) (l : Addr) (X : List Addr) (h : Heap) (xs : List V) : Prop :=
  ∃ (i : Nat) (vs : List Value) (ys : List V) (old : Value), IsEnum h e it i old ∧ St i h ∧ vs.length = n ∧ (∀ j v, P j v → vs[j]? = some v) ∧ i ≤ n ∧ l ∉ X ∧ (h.get? l).isSome ∧ RFs C h X (vs.drop i) ys ∧ xs = enumI i ys
theorem Itr.enum {e it l : Addr} {n : Nat} {P : Nat → Value → Prop} {T : Nat → Heap → Prop} (hh : A.handled = none) (D : Draws C.prog C.w A.in1 it [it, l] n P T) (hei : e ≠ it) (hel : e ≠ l) (elts : List Expr) (k : Nat) (pos : Pos) :
    Itr C A e [e, it] (.Tuple elts k pos) (SEnum C e it n T P l) where
  frame := by
    rintro X h xs X' h' ⟨i, vs, ys, old, h1, h2, h3, h4, h5, h6, h7, h8, h9⟩ st hk
    obtain ⟨o, ho⟩ := Option.isSome_iff_exists.mp h7
    obtain ⟨q1, q2⟩ := st l o h6 ho
    refine ⟨i, vs, ys, old, hk e (by simp) _ h1, D.frame i h h' h2 fun b hb o' e' => ?_, h3, h4, h5, q2, by rw [q1]; rfl, h8.stay st, h9⟩
    rcases List.mem_cons.mp hb with rfl | hb
    · exact hk b (by simp) o' e'
    · rw [List.mem_singleton.mp hb] at e' ⊢
      exact (st l o' h6 e').1
  item := by
    rintro X s x xs Q E ⟨i, vs, ys, old, h1, h2, h3, h4, h5, h6, h7, h8, h9⟩ hw ht hQ
    cases ys with
    | nil => cases h9
    | cons y ys =>
      simp only [enumI, List.cons.injEq] at h9
      obtain ⟨rfl, rfl⟩ := h9
      obtain ⟨v, ws, q, r1, r2⟩ := h8.uncons
      obtain ⟨e1, e2⟩ := drop_uncons q
      have hi : i < n := by rw [← h3]; exact (List.getElem?_eq_some_iff.mp e1).1
      refine wpAny_pyNext_enum_itemD D h1 h2 hi hei (by simp [hei, hel]) fun x' h' tk hP ho hst hT hsz hk => ?_
      have hx : x' = v := by have := h4 i x' hP; rw [e1] at this; exact (Option.some.inj this).symm
      subst hx
      have eX := hw e (by simp)
      have iX := hw it (by simp)
      have hk' : ∀ b o, b ∉ [e, it] → s.heap.get? b = some o → h'.get? b = some o := fun b o nb q => hk b o (fun z => nb (by simp [z])) (fun z => nb (by simp [z])) q
      have lT : ∃ o, h'.get? it = some o := D.live _ _ hst
      have th : ∀ b, (s.heap.get? b).isSome → (h'.get? b).isSome := fun b q => by
        by_cases z : b = e
        · subst z; rw [show h'.get? b = _ from ho]; rfl
        · by_cases z2 : b = it
          · subst z2; obtain ⟨o, q'⟩ := lT; rw [q']; rfl
          · obtain ⟨o, q'⟩ := Option.isSome_iff_exists.mp q
            rw [hk b o z z2 q']; rfl
      have st : Stay s.heap X h' X := fun a o na q => ⟨hk' a o (fun m => by
        rcases List.mem_cons.mp m with rfl | m
        · exact na eX
        · exact na (List.mem_singleton.mp m ▸ iX)) q, na⟩
      have hTX : s.heap.objs.size ∉ X := new_notin ht (get?_size _)
      have rt : RF C.prog C.w h' X (.ref s.heap.objs.size) (.tup [.int i, y]) :=
        .tup (vs := [.int i tk, x']) ⟨_, hT, rfl, 0, rfl⟩ hTX rfl ((RFs.nil.cons (r1.stay st)).cons (.int (i : Int) tk)).2
      refine hQ _ h' _ hk' th rt fun Q₂ h₂ => ?_
      refine wpAny_letOwnedTupleGo_enum ho fun h'' he hs => ?_
      have th2 : ∀ b, (h'.get? b).isSome → (h''.get? b).isSome := sameBut_there hs (by rw [show h''.get? e = _ from he]; rfl)
      have st2 : Stay h' X h'' X := fun a o na q => ⟨(hs.2 a fun z => na (z ▸ eX)).trans q, na⟩
      refine h₂ h'' (fun b o nb q => (hs.2 b fun z => nb (by simp [z])).trans (hk' b o nb q)) (fun b q => th2 b (th b q)) (rt.stay st2) ⟨i + 1, vs, ys, x', ?_, ?_, h3, h4, hi, h6, ?_, ?_, rfl⟩
      · have q : ((i + 1 : Nat) : Int) = (i : Int) + 1 := by omega
        rw [q]; exact he
      · refine D.frame _ _ _ hst fun b hb o q => (hs.2 b fun z => ?_).trans q
        subst z
        rcases List.mem_cons.mp hb with rfl | hb
        · exact hei rfl
        · exact hel (List.mem_singleton.mp hb)
      · exact th2 l (th l h7)
      · rw [e2]; exact (r2.stay st).stay st2
  done := by
    rintro X s Q E ⟨i, vs, ys, old, h1, h2, h3, h4, h5, h6, h7, h8, h9⟩ hQ
    cases ys with
    | cons y ys => cases h9
    | nil =>
      have e1 := h8.unnil
      have hi : i = n := by rw [List.drop_eq_nil_iff, h3] at e1; omega
      subst hi
      refine wpAny_pyNext_enum_endD D h1 h2 fun h' he => hQ h' s.toks fun b o nb q => he b o (fun z => nb (by simp [z])) q
  self := by
    rintro X s xs Q E ⟨i, vs, ys, old, h1, h2, h3, h4, h5, h6, h7, h8, h9⟩ hQ
    exact wpAny_pyIter_enum h1 hQ
end
end Mine
end

section
set_option autoImplicit false
set_option Elab.async false
set_option maxRecDepth 100000
namespace Mine


section
variable {C : Cx} {env : Env} {h h' : Heap} {X X' μ : List Addr} {ρ : Rho} {σ : Sto}

theorem Post.addX (s : St C env h X μ ρ σ) (hk : ∀ b o, h.get? b = some o → h'.get? b = some o) (h1 : ∀ a ∈ X', a ∈ X ∨ h.get? a = none) (h2 : ∀ a ∈ X, a ∈ X') (h3 : ∀ a ∈ X', (h'.get? a).isSome) :
    Post C env ρ h X μ σ h' X' μ σ :=
  ⟨s.change (wr := []) (fun b o _ e => hk b o e) (fun _ m => nomatch m) (fun m => nomatch m) (fun _ _ _ m => nomatch m) (fun _ _ m => nomatch m) h1 (fun a m _ => h2 a m) h3,
    ⟨fun a o _ e => hk a o e, fun a e => isSome_of_keeps hk e, h1⟩, ⟨[], by simp, fun _ m => nomatch m⟩, fun _ l => .inl l, fun a m _ _ => h2 a m⟩

theorem St.bindLocal {i : Nat} {x : Str} {v : Value} {u : V} {m : Str → Option Value} (s : St C env h X μ ρ σ) (hnd : C.tab.Nodup) (hk : env.kindOf x = some .local) (hi : C.tab[i]? = some x)
    (hm : h.Ns env.locals m) (hn : h'.Ns env.locals fun y => if y = x then some v else m y) (hs : Heap.SameBut env.locals h h') (r : RV C.prog C.w h X μ v u) : St C env h' X μ (put i u ρ) σ := by
  have hX := s.envOk.locX
  have keep : ∀ b o, b ≠ env.locals → h.get? b = some o → h'.get? b = some o := fun b o nb e => (hs.2 b nb).trans e
  have stay : Stay h X h' X := fun a o na e => ⟨keep a o (fun q => na (q ▸ hX)) e, na⟩
  have th : ∀ b, (h.get? b).isSome → (h'.get? b).isSome := sameBut_there hs (by obtain ⟨o, _, _, ho, _⟩ := hn; rw [ho]; rfl)
  have nl : ∀ b, Live μ σ b → b ≠ env.locals := fun b l q => s.envOk.locP (q ▸ l)
  refine ⟨fun b o e => keep b o (fun q => ?_) (s.keep b o e), s.new, fun a m' => th a (s.there a m'), ⟨s.envOk.kind, s.envOk.glob, s.envOk.blt, ⟨_, hn⟩, hX, s.envOk.hasCell, ?_, s.envOk.inj, s.envOk.locP⟩, ?_, ⟨s.sto.len, s.sto.nodup, fun a m' => th a (s.sto.there a m'), s.sto.inX, ?_⟩⟩
  · have := s.new _ hX; rw [← q, e] at this; cases this
  · intro y c e
    obtain ⟨h1, h2, ⟨v', hv⟩, h4⟩ := s.envOk.cell y c e
    exact ⟨h1, h2, ⟨v', hv.sameBut hs h2⟩, h4⟩
  · intro j y u' e1 e2 e3
    rw [lk_put] at e2
    by_cases q : i = j
    · subst q
      rw [if_pos rfl] at e2
      cases e2
      rw [hi] at e1
      cases e1
      exact ⟨v, .inl ⟨hk, _, hn, by simp⟩, r.stay0 stay⟩
    · rw [if_neg q] at e2
      obtain ⟨v', hv, hr⟩ := s.vars j y u' e1 e2 e3
      have hne : y ≠ x := fun q' => q (by
        subst q'
        exact (List.getElem?_inj (List.getElem?_eq_some_iff.mp hi).1 hnd).mp (hi.trans e1.symm))
      refine ⟨v', ?_, hr.stay0 stay⟩
      rcases hv with ⟨k, m', hm', hx⟩ | ⟨k, c, hcc, hx⟩
      · refine .inl ⟨k, _, hn, ?_⟩
        simp only [if_neg hne]
        rw [Heap.Ns.agree hm hm' y]; exact hx
      · exact .inr ⟨k, c, hcc, hx.sameBut hs (s.envOk.cell y c hcc).2.1⟩
  · intro n a o h1 h2
    exact (s.sto.obj n a o h1 h2).stay0 stay fun q e => keep a q (nl a ⟨n, o, h1, h2⟩) e

theorem St.bindCell {i : Nat} {x : Str} {v : Value} {u : V} {c : Addr} (s : St C env h X μ ρ σ) (hnd : C.tab.Nodup) (hk : env.kindOf x = some .cell) (hi : C.tab[i]? = some x)
    (hc : env.cells.lookup x = some c) (hn : h'.IsCell c (some v)) (hs : Heap.SameBut c h h') (r : RV C.prog C.w h X μ v u) : St C env h' X μ (put i u ρ) σ := by
  obtain ⟨hX, hcl, _, hcP⟩ := s.envOk.cell x c hc
  have keep : ∀ b o, b ≠ c → h.get? b = some o → h'.get? b = some o := fun b o nb e => (hs.2 b nb).trans e
  have stay : Stay h X h' X := fun a o na e => ⟨keep a o (fun q => na (q ▸ hX)) e, na⟩
  have th : ∀ b, (h.get? b).isSome → (h'.get? b).isSome := sameBut_there hs (by obtain ⟨o, ho, _⟩ := hn; rw [ho]; rfl)
  refine ⟨fun b o e => keep b o (fun q => ?_) (s.keep b o e), s.new, fun a m' => th a (s.there a m'), ⟨s.envOk.kind, s.envOk.glob, s.envOk.blt, ?_, s.envOk.locX, s.envOk.hasCell, ?_, s.envOk.inj, s.envOk.locP⟩, ?_, ⟨s.sto.len, s.sto.nodup, fun a m' => th a (s.sto.there a m'), s.sto.inX, ?_⟩⟩
  · have := s.new _ hX; rw [← q, e] at this; cases this
  · obtain ⟨m, hm⟩ := s.envOk.locals
    exact ⟨m, hm.sameBut hs (Ne.symm hcl)⟩
  · intro y d e
    obtain ⟨h1, h2, ⟨v', hv⟩, h4⟩ := s.envOk.cell y d e
    refine ⟨h1, h2, ?_, h4⟩
    by_cases q : d = c
    · subst q; exact ⟨_, hn⟩
    · exact ⟨v', hv.sameBut hs q⟩
  · intro j y u' e1 e2 e3
    rw [lk_put] at e2
    by_cases q : i = j
    · subst q
      rw [if_pos rfl] at e2
      cases e2
      rw [hi] at e1
      cases e1
      exact ⟨v, .inr ⟨.inl hk, c, hc, hn⟩, r.stay0 stay⟩
    · rw [if_neg q] at e2
      obtain ⟨v', hv, hr⟩ := s.vars j y u' e1 e2 e3
      have hne : y ≠ x := fun q' => q (by
        subst q'
        exact (List.getElem?_inj (List.getElem?_eq_some_iff.mp hi).1 hnd).mp (hi.trans e1.symm))
      refine ⟨v', ?_, hr.stay0 stay⟩
      rcases hv with ⟨k, m', hm', hx⟩ | ⟨k, d, hcc, hx⟩
      · exact .inl ⟨k, m', hm'.sameBut hs (Ne.symm hcl), hx⟩
      · exact .inr ⟨k, d, hcc, hx.sameBut hs fun q' => hne (s.envOk.inj y x c (q' ▸ hcc) hc)⟩
  · intro n a o h1 h2
    exact (s.sto.obj n a o h1 h2).stay0 stay fun q e => keep a q (fun z => hcP (z ▸ ⟨n, o, h1, h2⟩)) e
end

/-- the addresses that the binding of the names ns may change -/
noncomputable def Own (env : Env) (ns : List Str) (b : Addr) : Prop := b = env.locals ∨ ∃ x ∈ ns, env.cells.lookup x = some b

section
variable {C : Cx}
theorem wp_store {A : Around} {env : Env} {s : Shared} {X μ : List Addr} {ρ : Rho} {σ : Sto} {i : Nat} {x : Str} {v : Value} {u : V} {Q : Unit → Shared → Prop} {E : Value → Shared → Prop}
    (st : St C env s.heap X μ ρ σ) (hnd : C.tab.Nodup) (hl : env.kindOf x = some .local ∨ env.kindOf x = some .cell) (hi : C.tab[i]? = some x) (r : RV C.prog C.w s.heap X μ v u)
    (hQ : ∀ h' tk, St C env h' X μ (put i u ρ) σ → (∀ b o, ¬ Own env [x] b → s.heap.get? b = some o → h'.get? b = some o) → (∀ b, (s.heap.get? b).isSome → (h'.get? b).isSome) → Stay s.heap X h' X → Q () { s with heap := h', toks := tk }) :
    wpAny (model C.prog C.w) A (storeName env x v) Q E s := by
  rcases hl with hk | hk
  · obtain ⟨m, hm⟩ := st.envOk.locals
    refine wpAny_storeName_local hk hm (fun h' hn hs => ?_) (by rw [st.envOk.kind]; rfl)
    have hX := st.envOk.locX
    refine hQ h' _ (st.bindLocal hnd hk hi hm hn hs r) (fun b o nb e => (hs.2 b fun q => nb (.inl q)).trans e) (sameBut_there hs (by obtain ⟨o, _, _, ho, _⟩ := hn; rw [ho]; rfl)) ?_
    exact fun a o na e => ⟨(hs.2 a fun q => na (q ▸ hX)).trans e, na⟩
  · obtain ⟨c, hc⟩ := st.envOk.hasCell x (.inl hk)
    obtain ⟨hX, _, ⟨v₀, hv₀⟩, _⟩ := st.envOk.cell x c hc
    refine wpAny_storeName_cell st.envOk.kind hk hc hv₀ fun h' hn hs => ?_
    refine hQ h' s.toks (st.bindCell hnd hk hi hc hn hs r) (fun b o nb e => (hs.2 b fun q => nb (.inr ⟨x, List.mem_singleton.mpr rfl, q ▸ hc⟩)).trans e) (sameBut_there hs (by obtain ⟨o, ho, _⟩ := hn; rw [ho]; rfl)) ?_
    exact fun a o na e => ⟨(hs.2 a fun q => na (q ▸ hX)).trans e, na⟩
end

-- targets ------------------------------------------------------------------------------------------------------------------
inductive Tg where
  | one (i : Nat)
  | many (is : List Nat)
noncomputable def putAll : List Nat → List V → Rho → Option Rho
  | [], [], ρ => some ρ
  | i :: is, v :: vs, ρ => putAll is vs (put i v ρ)
  | _, _, _ => none
noncomputable def bindT : Tg → V → Rho → Option Rho
  | .one i, v, ρ => some (put i v ρ)
  | .many is, .tup vs, ρ => putAll is vs ρ
  | _, _, _ => none

noncomputable def stIn (sc : Scope) (x : Str) : Bool := match sc.names.lookup x with
  | some .local => true
  | some .cell => true
  | _ => false
theorem st_of {sc : Scope} {env : Env} {x : Str} (he : env.scope = sc) (h : stIn sc x = true) : env.kindOf x = some .local ∨ env.kindOf x = some .cell := by
  unfold stIn at h
  unfold Env.kindOf
  rw [he]
  split at h <;> simp_all

/-- the target takes a value: what it says of names, and of nothing else -/
noncomputable def SA (C : Cx) (sc : Scope) (tgt : Expr) (ns : List Str) (T : Tg) : Prop :=
  ∀ (A : Around) (env : Env) (s : Shared) (X μ : List Addr) (ρ : Rho) (σ : Sto) (v : Value) (u : V) (ρ' : Rho) (Q : Unit → Shared → Prop) (E : Value → Shared → Prop),
    env.scope = sc → A.handled = none → St C env s.heap X μ ρ σ → RV C.prog C.w s.heap X μ v u → bindT T u ρ = some ρ' →
    (∀ h' tk, St C env h' X μ ρ' σ → (∀ b o, ¬ Own env ns b → s.heap.get? b = some o → h'.get? b = some o) → (∀ b, (s.heap.get? b).isSome → (h'.get? b).isSome) → Stay s.heap X h' X → Q () { s with heap := h', toks := tk }) →
    wpAny (model C.prog C.w) A (assign tgt env v) Q E s

/-- names, one after the other -/
inductive NamesAre (C : Cx) (sc : Scope) : List Expr → List Nat → List Str → Prop
  | nil : NamesAre C sc [] [] []
  | cons {x : Str} {p : Pos} {i : Nat} {es : List Expr} {is : List Nat} {ns : List Str} : C.tab[i]? = some x → stIn sc x = true → NamesAre C sc es is ns → NamesAre C sc (.Name x p :: es) (i :: is) (x :: ns)

section
variable {C : Cx} {sc : Scope}
theorem SA_name (hnd : C.tab.Nodup) {x : Str} {p : Pos} {i : Nat} (hi : C.tab[i]? = some x) (hl : stIn sc x = true) : SA C sc (.Name x p) [x] (.one i) := by
  intro A env s X μ ρ σ v u ρ' Q E he hh st r hb hQ
  cases hb
  exact wpAny_assign_Name (wp_store st hnd (st_of he hl) hi r hQ)

theorem names_length {es : List Expr} {is : List Nat} {ns : List Str} (h : NamesAre C sc es is ns) (env : Env) : (assignEach es env).length = is.length ∧ (assignEach es env).findIdx? (·.1) = none := by
  induction h with
  | nil => exact ⟨rfl, rfl⟩
  | cons h1 h2 _ ih =>
    refine ⟨?_, ?_⟩
    · show (assignEach _ env).length + 1 = _ + 1
      rw [ih.1]
    · show List.findIdx? _ ((false, _) :: assignEach _ env) = none
      rw [List.findIdx?_cons]
      simp [ih.2]
theorem putAll_length : ∀ {is : List Nat} {us : List V} {ρ ρ' : Rho}, putAll is us ρ = some ρ' → is.length = us.length
  | [], [], _, _, _ => rfl
  | _ :: is, _ :: us, _, _, h => by
    simp only [putAll] at h
    simp [putAll_length h]
  | [], _ :: _, _, _, h => by cases h
  | _ :: _, [], _, _, h => by cases h

theorem wp_names (hnd : C.tab.Nodup) {A : Around} {env : Env} (he : env.scope = sc) {E : Value → Shared → Prop} : ∀ {es : List Expr} {is : List Nat} {ns : List Str}, NamesAre C sc es is ns →
    ∀ (s : Shared) (X μ : List Addr) (ρ : Rho) (σ : Sto) (vs : List Value) (us : List V) (ρ' : Rho) (Q : Unit → Shared → Prop), St C env s.heap X μ ρ σ → RVs C s.heap X μ vs us → putAll is us ρ = some ρ' →
    (∀ h' tk, St C env h' X μ ρ' σ → (∀ b o, ¬ Own env ns b → s.heap.get? b = some o → h'.get? b = some o) → (∀ b, (s.heap.get? b).isSome → (h'.get? b).isSome) → Stay s.heap X h' X → Q () { s with heap := h', toks := tk }) →
    wpAny (model C.prog C.w) A (assignInOrder ((assignEach es env).map (·.2)) vs) Q E s := by
  intro es is ns h
  induction h with
  | nil =>
    intro s X μ ρ σ vs us ρ' Q st r hp hQ
    cases us with
    | nil =>
      cases hp
      show wpAny _ A (assignInOrder [] vs) Q E s
      cases vs <;> exact wpAny_pure (hQ s.heap s.toks st (fun _ _ _ e => e) (fun _ e => e) (fun a o n e => ⟨e, n⟩))
    | cons u us => cases hp
  | @cons x p i es is ns h1 h2 hr ih =>
    intro s X μ ρ σ vs us ρ' Q st r hp hQ
    cases us with
    | nil => cases hp
    | cons u us =>
      obtain ⟨v, ws, rfl, r1, r2⟩ := r.uncons
      refine wpAny_assignInOrder_more (t := assign (.Name x p) env) (ts := (assignEach es env).map (·.2)) (wpAny_assign_Name (wp_store st hnd (st_of he h2) h1 r1 fun h' tk st' k1 k2 k3 => ?_))
      refine ih { s with heap := h', toks := tk } X μ _ σ ws us ρ' Q st' ⟨r2.1, fun j v u e e' => (r2.2 j v u e e').stay0 k3⟩ hp fun h₂ tk₂ st₂ q1 q2 q3 => ?_
      refine hQ h₂ tk₂ st₂ (fun b o nb e => q1 b o (fun z => nb (z.elim .inl fun ⟨y, m, e⟩ => .inr ⟨y, .tail _ m, e⟩)) (k1 b o (fun z => nb (z.elim .inl fun ⟨y, m, e⟩ => .inr ⟨y, List.mem_singleton.mp m ▸ .head _, e⟩)) e))
        (fun b e => q2 b (k2 b e)) (fun a o n e => q3 a o n (k3 a o n e).1)

theorem SA_tuple (hnd : C.tab.Nodup) {es : List Expr} {is : List Nat} {ns : List Str} {k : Nat} {p : Pos} (h : NamesAre C sc es is ns) : SA C sc (.Tuple es k p) ns (.many is) := by
  intro A env s X μ ρ σ v u ρ' Q E he hh st r hb hQ
  cases u with
  | tup us =>
    obtain ⟨a, vs, rfl, hl, ha, hr⟩ := r.tup
    have hb' : putAll is us ρ = some ρ' := hb
    have e1 := putAll_length hb'
    refine wpAny_assign_Tuple hh hl ((names_length h env).1.trans (by rw [e1, List.size_toArray, hr.1])) (names_length h env).2 fun h' hx => ?_
    have hk : ∀ b o, s.heap.get? b = some o → h'.get? b = some o := fun b o e => hx b o (fun q => by rw [q, get?_size] at e; cases e) e
    have st' := st.keeps hk
    refine wp_names hnd he h { s with heap := h' } X μ ρ σ vs us ρ' Q st' ⟨hr.1, fun i v u e e' => ((hr.2 i v u e e').stay (Stay.of_keeps hk)).toRV⟩ hb' fun h₂ tk₂ st₂ q1 q2 q3 => ?_
    exact hQ h₂ tk₂ st₂ (fun b o nb e => q1 b o nb (hk b o e)) (fun b e => q2 b (isSome_of_keeps hk e)) (fun a o n e => q3 a o n (hk a o e))
  | _ => cases hb
end
end Mine
end

section
set_option autoImplicit false
set_option Elab.async false
set_option maxRecDepth 100000
namespace Mine

-- sources of a loop ----------------------------------------------------------------------------------------------------------
noncomputable def SI (C : Cx) (dp : Nat) (sc : Scope) (tgt e : Expr) (d : DL) : Prop :=
  ∀ (A : Around) (env : Env) (s : Shared) (X μ : List Addr) (ρ : Rho) (σ : Sto) (xs : List V) (σ' : Sto) (Q : Value → Shared → Prop) (E : Value → Shared → Prop),
    env.scope = sc → ARoom A dp → St C env s.heap X μ ρ σ → d ρ σ = some (xs, σ') →
    (∀ I wr S h' tk X' μ', Post C env ρ s.heap X μ σ h' X' μ' σ' → (∀ b ∈ wr, b ∈ X' ∧ s.heap.get? b = none ∧ b ∉ μ') → Itr C A I wr tgt S → S X' h' xs → Q (.ref I) { s with heap := h', toks := tk }) →
    wpAny (model C.prog C.w) A (eval e env) (fun x s₁ => wpAny (model C.prog C.w) A (pyIter x) Q E s₁) E s

noncomputable def lstI (d : DE) : DL := fun ρ σ => match d ρ σ with
  | some (.lst xs, σ₁) => some (xs, σ₁)
  | _ => none
noncomputable def rngItems (a b : Int) : Int → Option (List V)
  | .ofNat 1 => match Nat.ble a.natAbs 1000000 with
    | true => match Nat.ble b.natAbs 1000000 with
      | true => some (stepI 1 a (b - a).toNat)
      | false => none
    | false => none
  | .negSucc 0 => match Nat.ble a.natAbs 1000000 with
    | true => match Nat.ble b.natAbs 1000000 with
      | true => some (stepI (-1) a (a - b).toNat)
      | false => none
    | false => none
  | _ => none
noncomputable def anyI (d : DE) : DL := fun ρ σ => match d ρ σ with
  | some (.lst xs, σ₁) => some (xs, σ₁)
  | some (.rng a b c, σ₁) => match rngItems a b c with
    | some xs => some (xs, σ₁)
    | none => none
  | _ => none
noncomputable def enumD (d : DE) : DL := fun ρ σ => match d ρ σ with
  | some (.lst xs, σ₁) => some (enumI 0 xs, σ₁)
  | _ => none

section
variable {C : Cx} {dp : Nat} {sc : Scope}

theorem notin_mu {h : Heap} {X μ : List Addr} {σ : Sto} {a : Addr} (s : SR C.prog C.w h X μ σ) (n : h.get? a = none) : a ∉ μ := fun m => by
  have := s.there a m
  rw [n] at this; cases this

/-- a list at hand is gone through -/
theorem iter_list {A : Around} {env : Env} {s s₁ : Shared} {X X₁ μ μ₁ : List Addr} {ρ : Rho} {σ σ₁ : Sto} {v : Value} {xs : List V} {tgt : Expr} {Q : Value → Shared → Prop} {E : Value → Shared → Prop}
    (hh : A.handled = none) (P : Post C env ρ s.heap X μ σ s₁.heap X₁ μ₁ σ₁) (R : RV C.prog C.w s₁.heap X₁ μ₁ v (.lst xs)) (e : ∃ h tk, s₁ = { s with heap := h, toks := tk })
    (hQ : ∀ I wr S h' tk X' μ', Post C env ρ s.heap X μ σ h' X' μ' σ₁ → (∀ b ∈ wr, b ∈ X' ∧ s.heap.get? b = none ∧ b ∉ μ') → Itr C A I wr tgt S → S X' h' xs → Q (.ref I) { s with heap := h', toks := tk }) :
    wpAny (model C.prog C.w) A (pyIter v) Q E s₁ := by
  obtain ⟨h₁, tk₁, rfl⟩ := e
  obtain ⟨l, vs, rfl, hl, ha, hr⟩ := R.lst
  have hI : h₁.get? h₁.objs.size = none := get?_size h₁
  have hne : l ≠ h₁.objs.size := fun q => by obtain ⟨n, e⟩ := hl; rw [q, hI] at e; cases e
  refine wpAny_pyIter_list hl.isList ?_
  have P₂ : Post C env ρ h₁ X₁ μ₁ σ₁ (h₁.push { cls := .type "list_iterator", data := .fields #[.ref l, .int 0 0] }) (h₁.objs.size :: X₁) μ₁ σ₁ :=
    Post.addX P.st (push_keeps _ _) (fun a m => (List.mem_cons.mp m).elim (fun q => .inr (q ▸ hI)) .inl) (fun a m => .tail _ m) (fun a m => (List.mem_cons.mp m).elim (fun q => by rw [q, Heap.get?_push_size _ rfl]; rfl) fun m => isSome_of_keeps (push_keeps _ _) (P.st.there a m))
  refine hQ _ [h₁.objs.size] (SList C h₁.objs.size l) _ _ (h₁.objs.size :: X₁) μ₁ (P.trans P₂) (fun b m => ?_) (Itr.list hh hne tgt) ⟨0, vs, ⟨_, Heap.get?_push_size _ rfl, rfl, rfl⟩, hl.at fun o e => push_keeps _ _ _ _ e, ?_, ?_⟩
  · rw [List.mem_singleton.mp m]
    exact ⟨.head _, none_back P.adv.there hI, notin_mu P.st.sto hI⟩
  · intro m
    rcases List.mem_cons.mp m with q | q
    · exact hne q
    · exact ha q
  · exact hr.stay (P₂.stay P.st)

theorem SI_lst {e tgt : Expr} {d : DE} (h : SE C dp sc e d) : SI C dp sc tgt e (lstI d) := by
  intro A env s X μ ρ σ xs σ' Q E he hA hs hd hQ
  unfold lstI at hd
  split at hd
  · rename_i xs' σ₁ h1
    cases hd
    exact h A env s X μ ρ σ _ _ _ E he hA hs h1 fun v h' tk X' μ' P R => iter_list hA.1 P R ⟨_, _, rfl⟩ hQ
  · cases hd

theorem fits_small {i : Int} (h : i.natAbs ≤ 10000000) : Builtin.Range.rangeFitsLong i = true := by
  unfold Builtin.Range.rangeFitsLong
  rw [Bool.and_eq_true]
  exact ⟨decide_eq_true (by omega), decide_eq_true (by omega)⟩
theorem range_small {a b c : Int} {n : Nat} (ha : a.natAbs ≤ 1000000) (hb : b.natAbs ≤ 1000000) (hc : c = 1 ∨ c = -1) (hn : Builtin.Range.rangeSize a b c = (n : Int)) (hn' : (n : Int) ≤ (a - b).natAbs) : Builtin.Range.small a b c = true := by
  unfold Builtin.Range.small
  rw [hn, fits_small (i := a) (by omega), fits_small (i := b) (by omega), fits_small (i := c) (by omega), fits_small (i := (n : Int)) (by omega)]
  rcases hc with rfl | rfl
  · rw [if_pos (by decide), fits_small (i := b + (1 - 1)) (by omega)]; simp
  · rw [if_neg (by decide), fits_small (i := b + (-1 + 1)) (by omega)]; simp

theorem SI_any {e tgt : Expr} {d : DE} (hp : Plain tgt) (h : SE C dp sc e d) : SI C dp sc tgt e (anyI d) := by
  intro A env s X μ ρ σ xs σ' Q E he hA hs hd hQ
  unfold anyI at hd
  split at hd
  · rename_i xs' σ₁ h1
    cases hd
    exact h A env s X μ ρ σ _ _ _ E he hA hs h1 fun v h' tk X' μ' P R => iter_list hA.1 P R ⟨_, _, rfl⟩ hQ
  · rename_i a b c σ₁ h1
    split at hd
    · rename_i xs' hx
      cases hd
      refine h A env s X μ ρ σ _ _ _ E he hA hs h1 fun v h' tk X' μ' P R => ?_
      cases R with
      | @rng r _ _ _ t u v hr hn =>
        have key : ∃ n : Nat, Builtin.Range.rangeSize a b c = (n : Int) ∧ Builtin.Range.small a b c = true ∧ xs = stepI c a n := by
          unfold rngItems at hx
          split at hx
          · split at hx
            · rename_i h1
              split at hx
              · rename_i h2
                cases hx
                refine ⟨(b - a).toNat, rangeSize_nat a b, range_small (Nat.le_of_ble_eq_true h1) (Nat.le_of_ble_eq_true h2) (.inl rfl) (rangeSize_nat a b) (by omega), rfl⟩
              · cases hx
            · cases hx
          · split at hx
            · rename_i h1
              split at hx
              · rename_i h2
                cases hx
                refine ⟨(a - b).toNat, PySem.W.rangeSize_downNat a b, range_small (Nat.le_of_ble_eq_true h1) (Nat.le_of_ble_eq_true h2) (.inr rfl) (PySem.W.rangeSize_downNat a b) (by omega), rfl⟩
              · cases hx
            · cases hx
          · cases hx
        obtain ⟨n, k1, k2, rfl⟩ := key
        have hI : h'.get? h'.objs.size = none := get?_size h'
        refine wpAny_pyIter_range hr k2 ?_
        have P₂ : Post C env ρ h' X' μ' σ' (h'.push { cls := .type "range_iterator", data := .fields #[rawInt a, rawInt (Builtin.Range.rangeSize a b c), rawInt c] }) (h'.objs.size :: X') μ' σ' :=
          Post.addX P.st (push_keeps _ _) (fun a m => (List.mem_cons.mp m).elim (fun q => .inr (q ▸ hI)) .inl) (fun a m => .tail _ m) (fun a m => (List.mem_cons.mp m).elim (fun q => by rw [q, Heap.get?_push_size _ rfl]; rfl) fun m => isSome_of_keeps (push_keeps _ _) (P.st.there a m))
        refine hQ _ [h'.objs.size] (SRange h'.objs.size c) _ _ (h'.objs.size :: X') μ' (P.trans P₂) (fun b m => ?_) (Itr.range hA.1 hp) ⟨a, n, ?_, rfl⟩
        · rw [List.mem_singleton.mp m]
          exact ⟨.head _, none_back P.adv.there hI, notin_mu P.st.sto hI⟩
        · rw [k1]; exact Heap.get?_push_size _ rfl
    · cases hd
  · cases hd

theorem SI_enum (ok : C.Ok) {x : Str} {e : Expr} {d : DE} {p pos tp : Pos} {elts : List Expr} {k : Nat} (hk : sc.names.lookup x = some .globalImplicit) (hd : (x == Str.ofString "__debug__") = false)
    (hm : C.mg x = none) (hn : x ≠ Str.ofString "__name__") (hb : bootBuiltins x = some (.type "enumerate"))
    (hse : ∀ env pos, backTo pos (starEach [e] env) = [(false, eval e env)]) (h : SE C dp sc e d) :
    SI C dp sc (.Tuple elts k tp) (.Call (.Name x p) [e] [] pos) (enumD d) := by
  intro A env s X μ ρ σ xs σ' Q E he hA hs hdd hQ
  unfold enumD at hdd
  split at hdd
  · rename_i xs' σ₁ h1
    cases hdd
    refine wpAny_Call_NameR (name_builtin ok he hs hk hd hm hn hb ?_)
    refine PyProof.Rows.callWith_type (by rw [hse]; rfl) ?_
    rw [hse]
    refine Calls.evalArgs_plain (Calls.spliced_cons (h A env s X μ ρ σ _ _ _ E he hA hs h1 fun v h' tk X' μ' P R => ?_))
    refine Calls.spliced_nil ?_
    obtain ⟨l, vs, rfl, hl, ha, hr⟩ := R.lst
    refine call_enumerate_list hl.isList fun h₂ g1 g2 g3 g4 => ?_
    refine wpAny_pyIter_enum g1 ?_
    have z1 : h'.get? h'.objs.size = none := get?_size h'
    have z2 : h'.get? (h'.objs.size + 1) = none := by
      cases q : h'.get? (h'.objs.size + 1) with
      | none => rfl
      | some o => exact absurd (Nat.lt_trans (Nat.lt_succ_self _) (Heap.lt_size q)) (Nat.lt_irrefl _)
    have hl1 : l ≠ h'.objs.size := fun q => by obtain ⟨n, e⟩ := hl; rw [q, z1] at e; cases e
    have hl2 : l ≠ h'.objs.size + 1 := fun q => by obtain ⟨n, e⟩ := hl; rw [q, z2] at e; cases e
    have P₂ : Post C env ρ h' X' μ' σ' h₂ ((h'.objs.size + 1) :: h'.objs.size :: X') μ' σ' := by
      refine Post.addX P.st g4 (fun a m => ?_) (fun a m => .tail _ (.tail _ m)) (fun a m => ?_)
      · rcases List.mem_cons.mp m with q | m
        · exact .inr (q ▸ z2)
        · rcases List.mem_cons.mp m with q | m
          · exact .inr (q ▸ z1)
          · exact .inl m
      · rcases List.mem_cons.mp m with q | m
        · rw [q, show h₂.get? (h'.objs.size + 1) = _ from g1]; rfl
        · rcases List.mem_cons.mp m with q | m
          · obtain ⟨o, ho, _⟩ := g2
            rw [q, ho]; rfl
          · exact isSome_of_keeps g4 (P.st.there a m)
    refine hQ _ [h'.objs.size + 1, h'.objs.size] (SEnum C (h'.objs.size + 1) h'.objs.size vs.toArray.size (fun i h => h.IsListIter h'.objs.size l i ∧ h.IsList l vs.toArray) (fun i v => vs.toArray[i]? = some v) l) _ _ _ μ' (P.trans P₂) (fun b m => ?_)
      (Itr.enum hA.1 (Draws.list (A := A.in1) hA.1 h'.objs.size l hl1 vs.toArray) (Nat.succ_ne_self _) hl2.symm elts k tp) ?_
    · rcases List.mem_cons.mp m with q | m
      · rw [q]
        exact ⟨.head _, none_back P.adv.there z2, notin_mu P.st.sto z2⟩
      · rw [List.mem_singleton.mp m]
        exact ⟨.tail _ (.head _), none_back P.adv.there z1, notin_mu P.st.sto z1⟩
    · refine ⟨0, vs, _, .none, g1, ⟨g2, hl.isList.at fun o e => g4 _ _ e⟩, by simp, fun j v e => by simpa using e, Nat.zero_le _, ?_, ?_, hr.stay (P₂.stay P.st), rfl⟩
      · intro m
        rcases List.mem_cons.mp m with q | m
        · exact hl2 q
        · rcases List.mem_cons.mp m with q | m
          · exact hl1 q
          · exact ha m
      · obtain ⟨n, e⟩ := hl
        rw [g4 _ _ e]; rfl
  · cases hdd
end
end Mine
end

section
set_option autoImplicit false
set_option Elab.async false
set_option maxRecDepth 100000
namespace Mine

/-- a piece of work in a comprehension's own frame: D its list, ns the names that it binds, W what is besides gone -/
structure CP (C : Cx) (env : Env) (ρ : Rho) (D : Addr) (ns : List Str) (W : List Addr) (h : Heap) (X μ : List Addr) (σ : Sto) (h' : Heap) (X' μ' : List Addr) (σ' : Sto) : Prop where
  st : St C env h' X' μ' ρ σ'
  keep : ∀ a o, ¬ Live μ σ a → ¬ Own env ns a → a ≠ D → a ∉ W → h.get? a = some o → h'.get? a = some o
  there : ∀ a, a ∉ W → (h.get? a).isSome → (h'.get? a).isSome
  new : ∀ a ∈ X', a ∈ X ∨ h.get? a = none
  ext : ∃ ν, μ' = μ ++ ν ∧ ∀ a ∈ ν, h.get? a = none
  live : ∀ a, Live μ' σ' a → Live μ σ a ∨ h.get? a = none
  sub : ∀ a ∈ X, (h.get? a).isSome → ¬ Live μ σ a → a ∉ W → a ∈ X'

section
variable {C : Cx} {env : Env} {ρ ρ' : Rho} {D : Addr} {ns : List Str} {W : List Addr} {h h₁ h₂ : Heap} {X X₁ X₂ μ μ₁ μ₂ : List Addr} {σ σ₁ σ₂ : Sto}

theorem none_of {h h' : Heap} {a : Addr} (t : (h.get? a).isSome → (h'.get? a).isSome) (e : h'.get? a = none) : h.get? a = none := by
  cases q : h.get? a with
  | none => rfl
  | some o => have := t (by rw [q]; rfl); rw [e] at this; cases this

theorem CP.trans (x : CP C env ρ D ns [] h X μ σ h₁ X₁ μ₁ σ₁) (y : CP C env ρ' D ns W h₁ X₁ μ₁ σ₁ h₂ X₂ μ₂ σ₂) (hW : ∀ a ∈ W, h.get? a = none) : CP C env ρ' D ns [] h X μ σ h₂ X₂ μ₂ σ₂ where
  st := y.st
  keep := fun a o n1 n2 n3 _ e => y.keep a o (fun l => (x.live a l).elim n1 fun q => by rw [e] at q; cases q) n2 n3 (fun m => by have := hW a m; rw [e] at this; cases this) (x.keep a o n1 n2 n3 (by simp) e)
  there := fun a _ e => y.there a (fun m => by have := hW a m; rw [this] at e; cases e) (x.there a (by simp) e)
  new := fun a m => (y.new a m).elim (x.new a) fun q => .inr (none_of (x.there a (by simp)) q)
  ext := by
    obtain ⟨ν, e, f⟩ := x.ext
    obtain ⟨ν', e', f'⟩ := y.ext
    refine ⟨ν ++ ν', by rw [e', e, List.append_assoc], fun a m => ?_⟩
    rcases List.mem_append.mp m with m | m
    · exact f a m
    · exact none_of (x.there a (by simp)) (f' a m)
  live := fun a l => (y.live a l).elim (x.live a) fun q => .inr (none_of (x.there a (by simp)) q)
  sub := fun a m e n _ => y.sub a (x.sub a m e n (by simp)) (x.there a (by simp) e) (fun l => (x.live a l).elim n fun q => by rw [q] at e; cases e) fun m' => by have := hW a m'; rw [this] at e; cases e

theorem CP.refl (s : St C env h X μ ρ σ) : CP C env ρ D ns [] h X μ σ h X μ σ :=
  ⟨s, fun _ _ _ _ _ _ e => e, fun _ _ e => e, fun _ m => .inl m, ⟨[], by simp, fun _ m => nomatch m⟩, fun _ l => .inl l, fun _ m _ _ _ => m⟩
theorem CP.of_post (x : Post C env ρ h X μ σ h₁ X₁ μ₁ σ₁) : CP C env ρ D ns [] h X μ σ h₁ X₁ μ₁ σ₁ :=
  ⟨x.st, fun a o n _ _ _ e => x.adv.keep a o n e, fun a _ e => x.adv.there a e, x.adv.new, x.ext, x.live, fun a m e n _ => x.sub a m e n⟩
theorem CP.weakenNs {ns' : List Str} (x : CP C env ρ D ns W h X μ σ h₁ X₁ μ₁ σ₁) (hs : ∀ y ∈ ns, y ∈ ns') : CP C env ρ D ns' W h X μ σ h₁ X₁ μ₁ σ₁ :=
  { x with keep := fun a o n1 n2 n3 n4 e => x.keep a o n1 (fun q => n2 (q.elim .inl fun ⟨y, m, e⟩ => .inr ⟨y, hs y m, e⟩)) n3 n4 e }

theorem St.weaken (s : St C env h X μ ρ σ) (hs : ∀ i u, lk ρ' i = some u → lk ρ i = some u) : St C env h X μ ρ' σ :=
  { s with vars := fun i x u e1 e2 e3 => s.vars i x u e1 (hs i u e2) e3 }

theorem Own.inX (s : St C env h X μ ρ σ) {a : Addr} (o : Own env ns a) : a ∈ X := by
  rcases o with rfl | ⟨x, _, e⟩
  · exact s.envOk.locX
  · exact (s.envOk.cell x a e).1
theorem Own.there (s : St C env h X μ ρ σ) {a : Addr} (o : Own env ns a) : (h.get? a).isSome := s.there a (Own.inX s o)

theorem CP.stay (s : St C env h X μ ρ' σ) (x : CP C env ρ D ns [] h X μ σ h₁ X₁ μ₁ σ₁) (hD : D ∈ X) : Stay h X h₁ X₁ := fun a o n e =>
  ⟨x.keep a o (fun l => n (s.sto.inX a l)) (fun q => n (Own.inX s q)) (fun q => n (q ▸ hD)) (by simp) e, fun m => (x.new a m).elim n fun q => by rw [q] at e; cases e⟩
end

noncomputable def AccAt (C : Cx) (h : Heap) (X μ : List Addr) (D : Addr) (us : List V) : Prop := ∃ vals : List Value, h.PlainList D vals.toArray ∧ RVs C h X μ vals us

/-- D is the comprehension's own -/
structure AccOk (env : Env) (X μ : List Addr) (D : Addr) : Prop where
  inX : D ∈ X
  notin : D ∉ μ
  loc : D ≠ env.locals
  cell : ∀ x c, env.cells.lookup x = some c → c ≠ D
  locn : env.locals ∉ μ

/-- what stands behind the binding of a turn -/
noncomputable def CTail (C : Cx) (cenv : Env) (D : Addr) (ns : List Str) (tail : (Unit → Shared → Prop) → (Value → Shared → Prop) → Shared → Prop) (f : Rho → Sto → Option (List V × Sto)) : Prop :=
  ∀ (s : Shared) (X μ : List Addr) (ρ : Rho) (σ : Sto) (accs vs : List V) (σ' : Sto) (Q : Unit → Shared → Prop) (E : Value → Shared → Prop),
    St C cenv s.heap X μ ρ σ → AccAt C s.heap X μ D accs → AccOk cenv X μ D → f ρ σ = some (vs, σ') → accs.length + vs.length ≤ 100000 →
    (∀ h' tk X' μ', CP C cenv ρ D ns [] s.heap X μ σ h' X' μ' σ' → AccAt C h' X' μ' D (accs ++ vs) → Q () { s with heap := h', toks := tk }) →
    tail Q E s

noncomputable def loopL (f : V → Sto → Option (List V × Sto)) : List V → Sto → Option (List V × Sto)
  | [], σ => some ([], σ)
  | x :: xs, σ => match f x σ with
    | none => none
    | some (ys, σ₁) => match loopL f xs σ₁ with
      | none => none
      | some (zs, σ₂) => some (ys ++ zs, σ₂)
noncomputable def turnL (ρ : Rho) (T : Tg) (f : Rho → Sto → Option (List V × Sto)) (x : V) (σ : Sto) : Option (List V × Sto) := match bindT T x ρ with
  | none => none
  | some ρ' => f ρ' σ

section
variable {C : Cx}
theorem AccAt.stay {h h' : Heap} {X X' μ ν : List Addr} {D : Addr} {us : List V} (a : AccAt C h X μ D us) (k : ∀ o, h.get? D = some o → h'.get? D = some o) (st : Stay h X h' X') : AccAt C h' X' (μ ++ ν) D us := by
  obtain ⟨vals, h1, h2⟩ := a
  exact ⟨vals, h1.at k, h2.stay st⟩
theorem AccAt.stay0 {h h' : Heap} {X X' μ : List Addr} {D : Addr} {us : List V} (a : AccAt C h X μ D us) (k : ∀ o, h.get? D = some o → h'.get? D = some o) (st : Stay h X h' X') : AccAt C h' X' μ D us := by
  have := AccAt.stay (ν := []) a k st
  rwa [List.append_nil] at this
theorem AccAt.there {h : Heap} {X μ : List Addr} {D : Addr} {us : List V} (a : AccAt C h X μ D us) : (h.get? D).isSome := by
  obtain ⟨vals, ⟨n, e⟩, _⟩ := a
  rw [e]; rfl

theorem comp_loop {A : Around} {cenv : Env} {D I : Addr} {ns ns₁ : List Str} {wr : List Addr} {tgt elt : Expr} {gens : List Comprehension} {scope : Scope} {pos : Pos} {depth : Nat} {S : List Addr → Heap → List V → Prop} {T : Tg} {tail : (Unit → Shared → Prop) → (Value → Shared → Prop) → Shared → Prop}
    {f : Rho → Sto → Option (List V × Sto)} {ρ₀ : Rho} {h₀ : Heap} {X₀ μ₀ : List Addr} {σ₀ : Sto} {R : Result → Shared → Prop} {s₀ : Shared}
    (hh : A.handled = none)
    (hturn : ∀ (s : Shared) (Q : Fin → Shared → Prop) (E : Value → Shared → Prop), wpAny (model C.prog C.w) A (pyNext (.ref I)) (fun r s₁ => match r with
      | none => Q (.done .next) s₁
      | some v => wpAny (model C.prog C.w) A (letOwnedTupleGo tgt (.ref I) v) (fun _ s₂ => wpAny (model C.prog C.w) A (assign tgt cenv v) (fun _ s₃ => tail
          (fun _ s₄ => Q (.again (.compLoop (.ListComp elt gens scope pos) depth (.ref I) (.ref D) cenv)) s₄) E s₃) E s₂) E s₁) E s →
      wpAny (model C.prog C.w) A (compTurn (.ListComp elt gens scope pos) depth (.ref I) (.ref D) cenv) Q E s)
    (hI : Itr C A I wr tgt S) (hA : SA C cenv.scope tgt ns₁ T) (hns : ∀ y ∈ ns₁, y ∈ ns) (htail : CTail C cenv D ns tail f)
    (hfresh : ∀ x ρ', bindT T x ρ₀ = some ρ' → ∀ i u, lk ρ₀ i = some u → lk ρ' i = some u)
    (hwr0 : ∀ b ∈ wr, h₀.get? b = none) (hwD : D ∉ wr) (hwl : cenv.locals ∉ wr) (hwc : ∀ x c, cenv.cells.lookup x = some c → c ∉ wr)
    : ∀ (xs : List V) (s : Shared) (X μ : List Addr) (σ : Sto) (accs vs : List V) (σ' : Sto), (∃ h tk, s = { s₀ with heap := h, toks := tk }) → CP C cenv ρ₀ D ns [] h₀ X₀ μ₀ σ₀ s.heap X μ σ → AccAt C s.heap X μ D accs → AccOk cenv X μ D →
      S X s.heap xs → (∀ b ∈ wr, b ∈ X ∧ b ∉ μ) → loopL (turnL ρ₀ T f) xs σ = some (vs, σ') → accs.length + vs.length ≤ 100000 →
      (∀ h' tk X' μ', CP C cenv ρ₀ D ns [] h₀ X₀ μ₀ σ₀ h' X' μ' σ' → AccAt C h' X' μ' D (accs ++ vs) → AccOk cenv X' μ' D → R (.ok .next) { s₀ with heap := h', toks := tk }) →
      codeAny (model C.prog C.w) A (.compLoop (.ListComp elt gens scope pos) depth (.ref I) (.ref D) cenv) R s := by
  intro xs
  induction xs with
  | nil =>
    rintro s X μ σ accs vs σ' ⟨h, tk, rfl⟩ P a ok hS hw hf hlen hQ
    cases hf
    refine codeAny_of_tree ?_
    show wpAny _ A ((compTurn (.ListComp elt gens scope pos) depth (.ref I) (.ref D) cenv).onRaise (fun x => do noteFrame x cenv; theTreesLotGoes x)) _ _ _
    refine wpAny_noted (hturn _ _ _ ?_)
    refine hI.done X _ _ _ hS fun h' tk' hk => ?_
    show R (.ok .next) _
    have stay : Stay h X h' (X.filter fun b => decide (b ∉ wr)) := fun b o n e => ⟨hk b o (fun m => n (hw b m).1) e, fun m => n (List.mem_filter.mp m).1⟩
    have y : CP C cenv ρ₀ D ns wr h X μ σ h' (X.filter fun b => decide (b ∉ wr)) μ σ := by
      refine ⟨P.st.change (wr := wr) hk (fun b m => .inl (hw b m).1) hwl hwc (fun b m q => (hw b q).2 m) (fun b m => .inl (List.mem_filter.mp m).1) (fun b m n => List.mem_filter.mpr ⟨m, by simpa using n⟩) (fun b m => ?_), fun b o _ _ _ n e => hk b o n e, fun b n e => ?_, fun b m => .inl (List.mem_filter.mp m).1,
        ⟨[], by simp, fun _ m => nomatch m⟩, fun _ l => .inl l, fun b m _ _ n => List.mem_filter.mpr ⟨m, by simpa using n⟩⟩
      · obtain ⟨m1, m2⟩ := List.mem_filter.mp m
        obtain ⟨o, e⟩ := Option.isSome_iff_exists.mp (P.st.there b m1)
        rw [hk b o (by simpa using m2) e]; rfl
      · obtain ⟨o, e⟩ := Option.isSome_iff_exists.mp e
        rw [hk b o n e]; rfl
    refine hQ h' tk' _ μ (P.trans y hwr0) ?_ ⟨List.mem_filter.mpr ⟨ok.inX, by simpa using hwD⟩, ok.notin, ok.loc, ok.cell, ok.locn⟩
    rw [List.append_nil]
    exact a.stay0 (fun o e => hk D o hwD e) stay
  | cons x xs ih =>
    rintro s X μ σ accs vs σ' ⟨h, tk, rfl⟩ P a ok hS hw hf hlen hQ
    simp only [loopL] at hf
    split at hf
    · cases hf
    · rename_i ys σ₁ h1
      split at hf
      · cases hf
      · rename_i zs σ₂ h2
        cases hf
        unfold turnL at h1
        split at h1
        · cases h1
        · rename_i ρ' hb
          refine codeAny_of_tree ?_
          show wpAny _ A ((compTurn (.ListComp elt gens scope pos) depth (.ref I) (.ref D) cenv).onRaise (fun x => do noteFrame x cenv; theTreesLotGoes x)) _ _ _
          refine wpAny_noted (hturn _ _ _ ?_)
          refine hI.item X _ x xs _ _ hS (fun b m => (hw b m).1) P.st.there fun v h₁ tk₁ k1 t1 r1 go => ?_
          refine go _ fun h₂ k2 t2 r2 hS₂ => ?_
          have st₂ : St C cenv h₂ X μ ρ₀ σ := P.st.change (wr := wr) k2 (fun b m => .inl (hw b m).1) hwl hwc (fun b m q => (hw b q).2 m) (fun b m => .inl m) (fun b m _ => m) (fun b m => t2 b (P.st.there b m))
          have stay2 : Stay h X h₂ X := fun b o n e => ⟨k2 b o (fun m => n (hw b m).1) e, n⟩
          have a₂ : AccAt C h₂ X μ D accs := a.stay0 (fun o e => k2 D o hwD e) stay2
          refine hA A cenv { s₀ with heap := h₂, toks := tk₁ } X μ ρ₀ σ v x ρ' _ _ rfl hh st₂ r2.toRV hb fun h₃ tk₃ st₃ k3 t3 stay3 => ?_
          have nD : ¬ Own cenv ns₁ D := fun q => q.elim ok.loc fun ⟨y, _, e⟩ => ok.cell y D e rfl
          have nw : ∀ b ∈ wr, ∀ ms, ¬ Own cenv ms b := fun b m ms q => q.elim (fun e => hwl (e ▸ m)) fun ⟨y, _, e⟩ => hwc y b e m
          have hS₃ : S X h₃ xs := hI.frame _ _ _ _ _ hS₂ stay3 fun b m o e => k3 b o (nw b m _) e
          have a₃ : AccAt C h₃ X μ D accs := a₂.stay0 (fun o e => k3 D o nD e) stay3
          have hl1 : accs.length + ys.length ≤ 100000 := by rw [List.length_append] at hlen; omega
          refine htail { s₀ with heap := h₃, toks := tk₃ } X μ ρ' σ accs ys σ₁ _ _ st₃ a₃ ok h1 hl1 fun h₄ tk₄ X₄ μ₄ Pt a₄ => ?_
          have st4 := Pt.stay st₃ ok.inX
          have nl : ∀ b, b ∉ μ → ¬ Live μ σ b := fun b n ⟨m, o, e, _⟩ => n (List.mem_of_getElem? e)
          have hS₄ : S X₄ h₄ xs := hI.frame _ _ _ _ _ hS₃ st4 fun b m o e => Pt.keep b o (nl b (hw b m).2) (nw b m _) (fun q => hwD (q ▸ m)) (by simp) e
          have ok₄ : AccOk cenv X₄ μ₄ D := by
            refine ⟨Pt.sub D ok.inX a₃.there (nl D ok.notin) (by simp), fun m => ?_, ok.loc, ok.cell, fun m => ?_⟩
            · obtain ⟨ν, e, f⟩ := Pt.ext
              rw [e] at m
              rcases List.mem_append.mp m with m | m
              · exact ok.notin m
              · have := a₃.there
                rw [f D m] at this; cases this
            · obtain ⟨ν, e, f⟩ := Pt.ext
              rw [e] at m
              rcases List.mem_append.mp m with m | m
              · exact ok.locn m
              · have := st₃.there _ st₃.envOk.locX
                rw [f _ m] at this; cases this
          have hw₄ : ∀ b ∈ wr, b ∈ X₄ ∧ b ∉ μ₄ := fun b m => by
            have hb3 : (h₃.get? b).isSome := t3 b (t2 b (P.st.there b (hw b m).1))
            refine ⟨Pt.sub b (hw b m).1 hb3 (nl b (hw b m).2) (by simp), fun m' => ?_⟩
            obtain ⟨ν, e, f⟩ := Pt.ext
            rw [e] at m'
            rcases List.mem_append.mp m' with m' | m'
            · exact (hw b m).2 m'
            · rw [f b m'] at hb3; cases hb3
          have t23 : ∀ b, (h.get? b).isSome → (h₃.get? b).isSome := fun b e => t3 b (t2 b e)
          have y : CP C cenv ρ₀ D ns wr h X μ σ h₄ X₄ μ₄ σ₁ := by
            refine ⟨Pt.st.weaken (hfresh x ρ' hb), fun b o n1 n2 n3 n4 e => ?_, fun b _ e => Pt.there b (by simp) (t23 b e), fun b m => (Pt.new b m).imp_right fun q => none_of (t23 b) q, ?_, fun b l => (Pt.live b l).imp_right fun q => none_of (t23 b) q,
              fun b m e n _ => Pt.sub b m (t23 b e) n (by simp)⟩
            · exact Pt.keep b o n1 n2 n3 (by simp) (k3 b o (fun q => n2 (q.elim .inl fun ⟨y, m, e⟩ => .inr ⟨y, hns y m, e⟩)) (k2 b o n4 e))
            · obtain ⟨ν, e, f⟩ := Pt.ext
              exact ⟨ν, e, fun b m => none_of (t23 b) (f b m)⟩
          refine ⟨rfl, ih { s₀ with heap := h₄, toks := tk₄ } X₄ μ₄ σ₁ (accs ++ ys) zs _ ⟨_, _, rfl⟩ (P.trans y hwr0) a₄ ok₄ hS₄ hw₄ h2 (by rw [List.length_append] at hlen ⊢; omega) fun h' tk' X' μ' P' a' ok' => ?_⟩
          refine hQ h' tk' X' μ' P' ?_ ok'
          rw [← List.append_assoc]; exact a'
end
end Mine
end

section
set_option autoImplicit false
set_option Elab.async false
set_option maxRecDepth 100000
namespace Mine

-- tests of a comprehension: none, or one
noncomputable def STs (C : Cx) (dp : Nat) (sc : Scope) (ifs : List Expr) (d : DT) : Prop :=
  (ifs = [] ∧ d = fun _ σ => some (true, σ)) ∨ ∃ e, ifs = [e] ∧ ST C dp sc e d
noncomputable def yesT : DT := fun _ σ => some (true, σ)

/-- a turn's end: the tests, the element -/
noncomputable def emitL (dt : DT) (de : DE) : Rho → Sto → Option (List V × Sto) := fun ρ σ => match dt ρ σ with
  | none => none
  | some (false, σ₁) => some ([], σ₁)
  | some (true, σ₁) => match de ρ σ₁ with
    | none => none
    | some (v, σ₂) => some ([v], σ₂)
noncomputable def testTree (ifs : List Expr) (env : Env) : Sem Bool := forIn ifs true fun c r => if r = true then do let ok ← isTrue c env (eval c env); pure (ForInStep.yield ok) else pure (ForInStep.yield r)
noncomputable def emitP (C : Cx) (A : Around) (ifs : List Expr) (elt : Expr) (acc : Value) (env : Env) (Q : Unit → Shared → Prop) (E : Value → Shared → Prop) (s : Shared) : Prop :=
  wpAny (model C.prog C.w) A (testTree ifs env) (fun ok s₃ => if ok = true then wpAny (model C.prog C.w) A (eval elt env) (fun x s₄ => wpAny (model C.prog C.w) A (call (.builtin "list.append") [acc, x]) (fun _ s₅ => Q () s₅) E s₄) E s₃ else Q () s₃) E s

section
variable {C : Cx} {dp : Nat} {sc : Scope}

theorem wp_tests {A : Around} {env : Env} {s : Shared} {X μ : List Addr} {ρ : Rho} {σ : Sto} {ifs : List Expr} {dt : DT} {b : Bool} {σ' : Sto} {Q : Bool → Shared → Prop} {E : Value → Shared → Prop}
    (h : STs C dp sc ifs dt) (he : env.scope = sc) (hA : ARoom A dp) (hs : St C env s.heap X μ ρ σ) (hd : dt ρ σ = some (b, σ'))
    (hQ : ∀ h' tk X' μ', Post C env ρ s.heap X μ σ h' X' μ' σ' → Q b { s with heap := h', toks := tk }) : wpAny (model C.prog C.w) A (testTree ifs env) Q E s := by
  rcases h with ⟨rfl, rfl⟩ | ⟨e, rfl, h⟩
  · cases hd
    exact wpAny_tests_nil (hQ s.heap s.toks X μ (Post.refl hs))
  · exact wpAny_tests_one (h A env s X μ ρ σ b σ' Q E he hA hs hd hQ)

theorem acc_append {A : Around} {s : Shared} {cenv : Env} {X μ : List Addr} {ρ : Rho} {σ : Sto} {D : Addr} {ns : List Str} {accs : List V} {v : Value} {u : V} {Q : Value → Shared → Prop} {E : Value → Shared → Prop}
    (hs : St C cenv s.heap X μ ρ σ) (a : AccAt C s.heap X μ D accs) (ok : AccOk cenv X μ D) (r : RV C.prog C.w s.heap X μ v u) (hlen : accs.length + 1 ≤ 100000)
    (hQ : ∀ h', CP C cenv ρ D ns [] s.heap X μ σ h' X μ σ → AccAt C h' X μ D (accs ++ [u]) → Q .none { s with heap := h' }) :
    wpAny (model C.prog C.w) A (call (.builtin "list.append") [.ref D, v]) Q E s := by
  obtain ⟨vals, h1, h2⟩ := a
  refine wpAny_list_append_plain h1 (fun h' g1 g2 => ?_) (by rw [List.size_toArray, h2.1]; have : sizeLine = 16777216 := rfl; omega)
  have hk : ∀ b o, b ∉ [D] → s.heap.get? b = some o → h'.get? b = some o := fun b o n e => (g2.2 b fun q => n (List.mem_singleton.mpr q)).trans e
  have th : ∀ b, (s.heap.get? b).isSome → (h'.get? b).isSome := sameBut_there g2 (by obtain ⟨n, e⟩ := g1; rw [e]; rfl)
  have stay : Stay s.heap X h' X := fun b o n e => ⟨hk b o (fun m => n (List.mem_singleton.mp m ▸ ok.inX)) e, n⟩
  have st' : St C cenv h' X μ ρ σ := hs.change (wr := [D]) hk (fun b m => .inl (List.mem_singleton.mp m ▸ ok.inX)) (fun m => ok.loc (List.mem_singleton.mp m).symm) (fun x c e m => ok.cell x c e (List.mem_singleton.mp m))
    (fun b m q => ok.notin (List.mem_singleton.mp q ▸ m)) (fun b m => .inl m) (fun b m _ => m) (fun b m => th b (hs.there b m))
  refine hQ h' ⟨st', fun b o _ _ n _ e => hk b o (fun m => n (List.mem_singleton.mp m)) e, fun b _ e => th b e, fun b m => .inl m, ⟨[], by simp, fun _ m => nomatch m⟩, fun _ l => .inl l, fun b m _ _ _ => m⟩ ⟨vals ++ [v], by simpa using g1, ?_, fun i v' u' e e' => ?_⟩
  · rw [List.length_append, List.length_append, h2.1]; rfl
  · by_cases c : i < vals.length
    · rw [List.getElem?_append_left c] at e
      rw [List.getElem?_append_left (h2.1 ▸ c)] at e'
      exact (h2.2 i v' u' e e').stay0 stay
    · rw [List.getElem?_append_right (Nat.not_lt.mp c)] at e
      rw [List.getElem?_append_right (h2.1 ▸ Nat.not_lt.mp c), ← h2.1] at e'
      cases k : i - vals.length with
      | zero =>
        rw [k] at e e'
        simp only [List.getElem?_cons_zero, Option.some.injEq] at e e'
        subst e; subst e'
        exact r.stay0 stay
      | succ j =>
        rw [k] at e
        simp at e

theorem acc_lift {cenv : Env} {s : Shared} {X μ : List Addr} {ρ : Rho} {σ : Sto} {D : Addr} {accs : List V} {h' : Heap} {X' μ' : List Addr} {σ₁ : Sto} (hs : St C cenv s.heap X μ ρ σ) (a : AccAt C s.heap X μ D accs) (ok : AccOk cenv X μ D)
    (P : Post C cenv ρ s.heap X μ σ h' X' μ' σ₁) : AccAt C h' X' μ' D accs ∧ AccOk cenv X' μ' D := by
  obtain ⟨ν, e, f⟩ := P.ext
  have nl : ¬ Live μ σ D := fun ⟨m, o, q, _⟩ => ok.notin (List.mem_of_getElem? q)
  refine ⟨?_, P.sub D ok.inX a.there nl, fun m => ?_, ok.loc, ok.cell, fun m => ?_⟩
  · rw [e]; exact a.stay (fun o q => P.adv.keep D o nl q) (P.stay hs)
  · rw [e] at m
    rcases List.mem_append.mp m with m | m
    · exact ok.notin m
    · have := a.there
      rw [f D m] at this; cases this
  · rw [e] at m
    rcases List.mem_append.mp m with m | m
    · exact ok.locn m
    · have := hs.there _ hs.envOk.locX
      rw [f _ m] at this; cases this

theorem CTail_emit {A : Around} {cenv : Env} {D : Addr} {ns : List Str} {ifs : List Expr} {elt : Expr} {dt : DT} {de : DE} (hA : ARoom A dp) (he : cenv.scope = sc) (ht : STs C dp sc ifs dt) (hx : SE C dp sc elt de) :
    CTail C cenv D ns (emitP C A ifs elt (.ref D) cenv) (emitL dt de) := by
  intro s X μ ρ σ accs vs σ' Q E hs a ok hf hlen hQ
  have lift := fun {h' : Heap} {X' μ' : List Addr} {σ₁ : Sto} (P : Post C cenv ρ s.heap X μ σ h' X' μ' σ₁) => acc_lift hs a ok P
  unfold emitL at hf
  unfold emitP
  split at hf
  · cases hf
  · rename_i σ₁ h1
    cases hf
    refine wp_tests ht he hA hs h1 fun h' tk X' μ' P => ?_
    rw [if_neg (by simp)]
    refine hQ h' tk X' μ' (CP.of_post P) ?_
    rw [List.append_nil]
    exact (lift P).1
  · rename_i σ₁ h1
    refine wp_tests ht he hA hs h1 fun h' tk X' μ' P => ?_
    rw [if_pos rfl]
    split at hf
    · cases hf
    · rename_i v σ₂ h2
      cases hf
      refine hx A cenv { s with heap := h', toks := tk } X' μ' ρ σ₁ v _ _ E he hA P.st h2 fun v' h₂ tk₂ X₂ μ₂ P₂ R => ?_
      have P₃ := P.trans P₂
      refine acc_append P₂.st (lift P₃).1 (lift P₃).2 R (by simpa using hlen) fun h₃ c3 a3 => hQ h₃ tk₂ X₂ μ₂ ((CP.of_post P₃).trans c3 (fun _ m => nomatch m)) a3

/-- the second clause of a comprehension -/
noncomputable def nestL (ds : DL) (fr : Rho → Bool) (T : Tg) (f : Rho → Sto → Option (List V × Sto)) : Rho → Sto → Option (List V × Sto) := fun ρ σ => match ds ρ σ with
  | none => none
  | some (xs, σ₁) => match fr ρ with
    | true => loopL (turnL ρ T f) xs σ₁
    | false => none
noncomputable def nestP (C : Cx) (A : Around) (e iter : Expr) (acc : Value) (env : Env) (Q : Unit → Shared → Prop) (E : Value → Shared → Prop) (s : Shared) : Prop :=
  wpAny (model C.prog C.w) A (eval iter env) (fun x s₁ => wpAny (model C.prog C.w) A (pyIter x) (fun it s₂ => wpAny (model C.prog C.w) A (runOwn (.compStart e 1 it acc env) env) (fun _ s₃ => Q () s₃) E s₂) E s₁) E s
noncomputable def freshT : Tg → Rho → Bool
  | .one i, ρ => (lk ρ i).isNone
  | .many is, ρ => is.all fun i => (lk ρ i).isNone
theorem freshAll {is : List Nat} : ∀ {vs : List V} {ρ ρ' : Rho}, putAll is vs ρ = some ρ' → ∀ i u, i ∉ is → lk ρ i = some u → lk ρ' i = some u := by
  induction is with
  | nil => intro vs ρ ρ' h i u _ e; cases vs <;> cases h; exact e
  | cons j is ih =>
    intro vs ρ ρ' h i u n e
    cases vs with
    | nil => cases h
    | cons v vs =>
      refine ih h i u (fun m => n (.tail _ m)) ?_
      rw [lk_put, if_neg (fun q : j = i => n (q ▸ .head _))]
      exact e
theorem fresh_of {T : Tg} {ρ : Rho} (h : freshT T ρ = true) : ∀ x ρ', bindT T x ρ = some ρ' → ∀ i u, lk ρ i = some u → lk ρ' i = some u := by
  intro x ρ' hb i u e
  cases T with
  | one j =>
    cases hb
    rw [lk_put]
    by_cases q : j = i
    · subst q
      simp [freshT, e] at h
    · rw [if_neg q]; exact e
  | many is =>
    cases x with
    | tup vs =>
      refine freshAll (show putAll is vs ρ = some ρ' from hb) i u (fun m => ?_) e
      have := List.all_eq_true.mp h i m
      rw [e] at this; cases this
    | _ => cases hb

theorem wp_compStart {A : Around} {R : Result → Shared → Prop} {s : Shared} {elt : Expr} {gens : List Comprehension} {scope : Scope} {pos : Pos} {depth : Nat} {it acc : Value} {env : Env} {g : Comprehension}
    (hg : gens[depth]? = some g) (hasy : g.is_async = 0)
    (h0 : codeAny (model C.prog C.w) A (.compLoop (.ListComp elt gens scope pos) depth it acc env) R s)
    (h : ∀ E, wpAny (model C.prog C.w) A (pyIter it) (fun it' s' => codeAny (model C.prog C.w) A (.compLoop (.ListComp elt gens scope pos) depth it' acc env) R s') E s) :
    codeAny (model C.prog C.w) A (.compStart (.ListComp elt gens scope pos) depth it acc env) R s := by
  refine codeAny_of_tree ?_
  show wpAny _ A ((compStart (.ListComp elt gens scope pos) depth it acc env).onRaise (fun x => do noteFrame x env; standAt theWindowsPlace)) _ _ s
  refine wpAny_notedAt ?_
  unfold compStart
  have ec : (clausesOf (.ListComp elt gens scope pos))[depth]? = some g := hg
  rw [ec]
  have ea : ((some g).elim false fun g => g.is_async != 0) = false := by simp [hasy]
  simp only [ea, Bool.false_eq_true, if_false]
  refine wpAny_bind (wpAny_askSetting (wpAny_ite ?_))
  split
  · exact wpAny_bind (wpAny_pure (wpAny_pure (And.intro rfl h0)))
  · exact wpAny_bind (wpAny_rule (wpAny_bind (wpAny_standAt (wpAny_bind (wpAny_mono (h _) (fun it' s' h' => wpAny_pure (And.intro rfl h')) fun _ _ x => x)))))

theorem turn_one {A : Around} {elt tgt iter : Expr} {ifs : List Expr} {scope : Scope} {pos : Pos} {it acc : Value} {env : Env} (s : Shared) (Q : Fin → Shared → Prop) (E : Value → Shared → Prop)
    (h : wpAny (model C.prog C.w) A (pyNext it) (fun r s₁ => match r with
      | none => Q (.done .next) s₁
      | some v => wpAny (model C.prog C.w) A (letOwnedTupleGo tgt it v) (fun _ s₂ => wpAny (model C.prog C.w) A (assign tgt env v) (fun _ s₃ => emitP C A ifs elt acc env
          (fun _ s₄ => Q (.again (.compLoop (.ListComp elt [⟨tgt, iter, ifs, 0⟩] scope pos) 0 it acc env)) s₄) E s₃) E s₂) E s₁) E s) :
    wpAny (model C.prog C.w) A (compTurn (.ListComp elt [⟨tgt, iter, ifs, 0⟩] scope pos) 0 it acc env) Q E s := by
  rw [compTurn_list]
  refine wpAny_bind (wpAny_standAt (wpAny_bind (wpAny_mono h (fun r s₁ h₁ => ?_) fun _ _ h' => h')))
  cases r with
  | none => exact wpAny_pure h₁
  | some v =>
    refine wpAny_bind (wpAny_mono h₁ (fun _ s₂ h₂ => wpAny_bind (wpAny_mono h₂ (fun _ s₃ h₃ => ?_) fun _ _ h' => h')) fun _ _ h' => h')
    refine wpAny_bind (wpAny_mono h₃ (fun ok s₄ h₄ => ?_) fun _ _ h' => h')
    cases ok with
    | false => exact wpAny_pure h₄
    | true => exact wpAny_bind (wpAny_bind (wpAny_mono h₄ (fun x s₅ h₅ => wpAny_bind (wpAny_mono h₅ (fun _ s₆ h₆ => wpAny_pure (wpAny_pure h₆)) fun _ _ h' => h')) fun _ _ h' => h'))

theorem compTurn_in (elt : Expr) (g tgt iter : Comprehension) (ifs : List Expr) (t i : Expr) (scope : Scope) (pos : Pos) (it acc : Value) (env : Env) :
    compTurn (.ListComp elt [g, ⟨t, i, ifs, 0⟩] scope pos) 1 it acc env = (do
      standAt i.pos
      match ← pyNext it with
      | none => pure (.done .next)
      | some v =>
        letOwnedTupleGo t it v
        assign t env v
        let mut ok := true
        for c in ifs do
          if ok then ok ← isTrue c env (eval c env)
        if ok then
          (do let _ ← call (.builtin "list.append") [acc, ← eval elt env])
        again (.compLoop (.ListComp elt [g, ⟨t, i, ifs, 0⟩] scope pos) 1 it acc env)) := by rfl
theorem compTurn_out (elt : Expr) (t i t' i' : Expr) (ifs' : List Expr) (scope : Scope) (pos : Pos) (it acc : Value) (env : Env) :
    compTurn (.ListComp elt [⟨t, i, [], 0⟩, ⟨t', i', ifs', 0⟩] scope pos) 0 it acc env = (do
      standAt i.pos
      match ← pyNext it with
      | none => pure (.done .next)
      | some v =>
        letOwnedTupleGo t it v
        assign t env v
        let x ← eval i' env
        standAt i'.pos
        let x ← foldedSetIterable i' env x
        let _ ← runOwn (.compStart (.ListComp elt [⟨t, i, [], 0⟩, ⟨t', i', ifs', 0⟩] scope pos) 1 (← holding [x] (pyIter x)) acc env) env
        again (.compLoop (.ListComp elt [⟨t, i, [], 0⟩, ⟨t', i', ifs', 0⟩] scope pos) 0 it acc env)) := by rfl
end
end Mine
end

section
set_option autoImplicit false
set_option Elab.async false
set_option maxRecDepth 100000
namespace Mine

section
variable {C : Cx} {dp : Nat} {sc : Scope}

theorem turn_in {A : Around} {elt t i : Expr} {g : Comprehension} {ifs : List Expr} {scope : Scope} {pos : Pos} {it acc : Value} {env : Env} (s : Shared) (Q : Fin → Shared → Prop) (E : Value → Shared → Prop)
    (h : wpAny (model C.prog C.w) A (pyNext it) (fun r s₁ => match r with
      | none => Q (.done .next) s₁
      | some v => wpAny (model C.prog C.w) A (letOwnedTupleGo t it v) (fun _ s₂ => wpAny (model C.prog C.w) A (assign t env v) (fun _ s₃ => emitP C A ifs elt acc env
          (fun _ s₄ => Q (.again (.compLoop (.ListComp elt [g, ⟨t, i, ifs, 0⟩] scope pos) 1 it acc env)) s₄) E s₃) E s₂) E s₁) E s) :
    wpAny (model C.prog C.w) A (compTurn (.ListComp elt [g, ⟨t, i, ifs, 0⟩] scope pos) 1 it acc env) Q E s := by
  rw [compTurn_in elt g g g ifs t i]
  refine wpAny_bind (wpAny_standAt (wpAny_bind (wpAny_mono h (fun r s₁ h₁ => ?_) fun _ _ h' => h')))
  cases r with
  | none => exact wpAny_pure h₁
  | some v =>
    refine wpAny_bind (wpAny_mono h₁ (fun _ s₂ h₂ => wpAny_bind (wpAny_mono h₂ (fun _ s₃ h₃ => ?_) fun _ _ h' => h')) fun _ _ h' => h')
    refine wpAny_bind (wpAny_mono h₃ (fun ok s₄ h₄ => ?_) fun _ _ h' => h')
    cases ok with
    | false => exact wpAny_pure h₄
    | true => exact wpAny_bind (wpAny_bind (wpAny_mono h₄ (fun x s₅ h₅ => wpAny_bind (wpAny_mono h₅ (fun _ s₆ h₆ => wpAny_pure (wpAny_pure h₆)) fun _ _ h' => h')) fun _ _ h' => h'))

theorem turn_out {A : Around} {elt t i t' i' : Expr} {ifs' : List Expr} {scope : Scope} {pos : Pos} {it acc : Value} {env : Env} (hs : ∀ x, foldedSetIterable i' env x = pure x) (s : Shared) (Q : Fin → Shared → Prop) (E : Value → Shared → Prop)
    (h : wpAny (model C.prog C.w) A (pyNext it) (fun r s₁ => match r with
      | none => Q (.done .next) s₁
      | some v => wpAny (model C.prog C.w) A (letOwnedTupleGo t it v) (fun _ s₂ => wpAny (model C.prog C.w) A (assign t env v) (fun _ s₃ => nestP C A (.ListComp elt [⟨t, i, [], 0⟩, ⟨t', i', ifs', 0⟩] scope pos) i' acc env
          (fun _ s₄ => Q (.again (.compLoop (.ListComp elt [⟨t, i, [], 0⟩, ⟨t', i', ifs', 0⟩] scope pos) 0 it acc env)) s₄) E s₃) E s₂) E s₁) E s) :
    wpAny (model C.prog C.w) A (compTurn (.ListComp elt [⟨t, i, [], 0⟩, ⟨t', i', ifs', 0⟩] scope pos) 0 it acc env) Q E s := by
  rw [compTurn_out]
  refine wpAny_bind (wpAny_standAt (wpAny_bind (wpAny_mono h (fun r s₁ h₁ => ?_) fun _ _ h' => h')))
  cases r with
  | none => exact wpAny_pure h₁
  | some v =>
    refine wpAny_bind (wpAny_mono h₁ (fun _ s₂ h₂ => wpAny_bind (wpAny_mono h₂ (fun _ s₃ h₃ => ?_) fun _ _ h' => h')) fun _ _ h' => h')
    refine wpAny_bind (wpAny_mono h₃ (fun x s₄ h₄ => ?_) fun _ _ h' => h')
    refine wpAny_bind (wpAny_standAt (wpAny_bind (wpAny_of_eq (hs x) ?_)))
    refine wpAny_bind (wpAny_holding (wpAny_mono h₄ (fun it' s₅ h₅ => ?_) fun _ _ h' => h'))
    exact wpAny_bind (wpAny_mono h₅ (fun _ s₆ h₆ => wpAny_pure h₆) fun _ _ h' => h')

theorem CTail_nest {A : Around} {cenv : Env} {D : Addr} {ns ns₁ : List Str} {ifs : List Expr} {elt t i t' i' : Expr} {scope : Scope} {pos : Pos} {T : Tg} {ds : DL} {f : Rho → Sto → Option (List V × Sto)}
    (hA : ARoom A dp) (he : cenv.scope = sc) (hi : SI C dp sc t' i' ds) (hT : SA C cenv.scope t' ns₁ T) (hns : ∀ y ∈ ns₁, y ∈ ns)
    (htail : CTail C cenv D ns (emitP C A ifs elt (.ref D) cenv) f) :
    CTail C cenv D ns (nestP C A (.ListComp elt [⟨t, i, [], 0⟩, ⟨t', i', ifs, 0⟩] scope pos) i' (.ref D) cenv) (nestL ds (freshT T) T f) := by
  intro s X μ ρ σ accs vs σ' Q E hs a ok hf hlen hQ
  unfold nestL at hf
  split at hf
  · cases hf
  · rename_i xs σ₁ h1
    split at hf
    · rename_i hfr
      unfold nestP
      refine hi A cenv s X μ ρ σ xs σ₁ _ E he hA hs h1 fun I wr S h' tk X' μ' P hw hI hS => ?_
      obtain ⟨a', ok'⟩ := acc_lift hs a ok P
      have hwr : ∀ b ∈ wr, s.heap.get? b = none := fun b m => (hw b m).2.1
      have nw : ∀ b, (s.heap.get? b).isSome → b ∉ wr := fun b e m => by rw [hwr b m] at e; cases e
      have loop := comp_loop (A := A) (s₀ := s) (R := fun r s' => match r with | .ok f => Q () s' | .error e => cameBackBy (model C.prog C.w) A cenv E e s') hA.1 (fun s Q E h => turn_in (g := ⟨t, i, [], 0⟩) (i := i') (scope := scope) (pos := pos) s Q E h) hI hT hns htail (ρ₀ := ρ) (fresh_of hfr) hwr (nw D a.there)
        (nw _ (hs.there _ hs.envOk.locX)) (fun x c e => nw c (hs.there c (hs.envOk.cell x c e).1)) xs { s with heap := h', toks := tk } X' μ' σ₁ accs vs σ' ⟨_, _, rfl⟩ (CP.of_post P) a' ok' hS (fun b m => ⟨(hw b m).1, (hw b m).2.2⟩) hf hlen
        (fun h₂ tk₂ X₂ μ₂ c2 a2 _ => hQ h₂ tk₂ X₂ μ₂ c2 a2)
      refine wpAny_runOwn (h := none) ?_ (by simp)
      rw [Around.mark_none]
      exact wp_compStart (g := ⟨t', i', ifs, 0⟩) rfl rfl loop fun E' => hI.self X' _ xs _ E' hS loop
    · cases hf
end
end Mine
end

section
set_option autoImplicit false
set_option Elab.async false
set_option maxRecDepth 100000
namespace Mine

section
variable {C : Cx} {env env' : Env} {ρ ρ' : Rho} {h h' : Heap} {X X' μ μ' : List Addr} {σ σ' : Sto}

/-- a piece of work in another frame, seen from this one -/
theorem Post.of_other (s : St C env h X μ ρ σ) (x : St C env' h' X' μ' ρ' σ') (adv : Adv (Live μ σ) h X h' X') (ext : ∃ ν, μ' = μ ++ ν ∧ ∀ a ∈ ν, h.get? a = none)
    (live : ∀ a, Live μ' σ' a → Live μ σ a ∨ h.get? a = none) (sub : ∀ a ∈ X, (h.get? a).isSome → ¬ Live μ σ a → a ∈ X') : Post C env ρ h X μ σ h' X' μ' σ' := by
  have stay : Stay h X h' X' := fun a o n e => ⟨adv.keep a o (fun l => n (s.sto.inX a l)) e, fun m => (adv.new a m).elim n fun q => by rw [e] at q; cases q⟩
  have nl' : ∀ a, (h.get? a).isSome → ¬ Live μ σ a → ¬ Live μ' σ' a := fun a e n l => (live a l).elim n fun q => by rw [q] at e; cases e
  have cthere : ∀ x c, env.cells.lookup x = some c → (h.get? c).isSome := fun x c e => s.there c (s.envOk.cell x c e).1
  refine ⟨⟨x.keep, x.new, x.there, ⟨s.envOk.kind, s.envOk.glob, s.envOk.blt, ?_, ?_, s.envOk.hasCell, ?_, s.envOk.inj, ?_⟩, ?_, x.sto⟩, adv, ext, live, sub⟩
  · obtain ⟨m, hm⟩ := s.envOk.locals
    exact ⟨m, hm.at' fun o e => adv.keep _ o s.envOk.locP e⟩
  · exact sub _ s.envOk.locX (s.there _ s.envOk.locX) s.envOk.locP
  · intro y c e
    obtain ⟨h1, h2, ⟨v, o, ho, hd⟩, h4⟩ := s.envOk.cell y c e
    exact ⟨sub c h1 (s.there c h1) h4, h2, ⟨v, o, adv.keep c o h4 ho, hd⟩, nl' c (s.there c h1) h4⟩
  · exact nl' _ (s.there _ s.envOk.locX) s.envOk.locP
  · intro i y u e1 e2 e3
    obtain ⟨v, hv, hr⟩ := s.vars i y u e1 e2 e3
    refine ⟨v, ?_, ?_⟩
    · rcases hv with ⟨k, m, hn, hx⟩ | ⟨k, c, hcc, o, ho, hd⟩
      · exact .inl ⟨k, m, hn.at' fun o e => adv.keep _ o s.envOk.locP e, hx⟩
      · exact .inr ⟨k, c, hcc, o, adv.keep c o (s.envOk.cell y c hcc).2.2.2 ho, hd⟩
    · obtain ⟨ν, e, _⟩ := ext
      rw [e]; exact hr.stay stay
end

theorem cell_beq : (NameKind.cell == NameKind.cell) = true := by decide
theorem free_beq : (NameKind.free == NameKind.free) = true := by decide
-- closures ---------------------------------------------------------------------------------------------------------------
noncomputable def closL (cells : List (Str × Addr)) : List (Str × NameKind) → List (Str × Addr) → List (Str × Addr)
  | [], acc => acc
  | (n, k) :: r, acc => if k == .free then (match cells.lookup n with | some c => closL cells r ((n, c) :: acc) | none => closL cells r acc) else closL cells r acc
theorem clos_loop (env : Env) (f : Str × NameKind → List (Str × Addr) → Sem (ForInStep (List (Str × Addr))))
    (hf : ∀ name kind cs, f (name, kind) cs = if kind == .free then (do let a ← cellOf env name; pure (.yield ((name, a) :: cs))) else pure (.yield cs)) :
    ∀ (names : List (Str × NameKind)) (acc : List (Str × Addr)), (∀ x ∈ names, x.2 = .free → (env.cells.lookup x.1).isSome) → forIn names acc f = pure (closL env.cells names acc)
  | [], acc, _ => by rw [List.forIn_nil]; rfl
  | (n, k) :: r, acc, h => by
    rw [List.forIn_cons, hf]
    unfold closL
    have hr : ∀ x ∈ r, x.2 = .free → (env.cells.lookup x.1).isSome := fun x m e => h x (.tail _ m) e
    by_cases hk : k = .free
    · subst hk
      obtain ⟨c, hc⟩ := Option.isSome_iff_exists.mp (h (n, .free) (.head _) rfl)
      have hc' : env.cells.lookup n = some c := hc
      unfold cellOf
      rw [hc']
      exact clos_loop env f hf r _ hr
    · have : (k == NameKind.free) = false := by cases k <;> first | rfl | exact absurd rfl hk
      rw [this]
      exact clos_loop env f hf r _ hr
theorem closureFor_eq {scope : Scope} {env : Env} (h : ∀ x ∈ scope.names, x.2 = .free → (env.cells.lookup x.1).isSome) : closureFor scope env = pure (closL env.cells scope.names []) := by
  unfold closureFor
  dsimp only
  refine (congrArg (fun m => m >>= fun cs => pure cs) (clos_loop env _ (fun name kind cs => by cases hk : kind == NameKind.free <;> simp) scope.names [] h)).trans ?_
  rfl
theorem closL_mem (cells : List (Str × Addr)) : ∀ (names : List (Str × NameKind)) (acc : List (Str × Addr)) (x : Str) (c : Addr), (x, c) ∈ closL cells names acc → (x, c) ∈ acc ∨ ((x, .free) ∈ names ∧ cells.lookup x = some c)
  | [], acc, x, c, m => .inl m
  | (n, k) :: r, acc, x, c, m => by
    unfold closL at m
    split at m
    · rename_i hk
      have hk' : k = .free := by cases k <;> first | rfl | cases hk
      subst hk'
      split at m
      · rename_i c' hc
        rcases closL_mem cells r _ x c m with q | q
        · rcases List.mem_cons.mp q with q | q
          · cases q; exact .inr ⟨.head _, hc⟩
          · exact .inl q
        · exact .inr ⟨.tail _ q.1, q.2⟩
      · exact (closL_mem cells r _ x c m).imp_right fun q => ⟨.tail _ q.1, q.2⟩
    · exact (closL_mem cells r _ x c m).imp_right fun q => ⟨.tail _ q.1, q.2⟩
theorem closL_acc (cells : List (Str × Addr)) : ∀ (names : List (Str × NameKind)) (acc : List (Str × Addr)) (p : Str × Addr), p ∈ acc → p ∈ closL cells names acc
  | [], acc, p, m => m
  | (n, k) :: r, acc, p, m => by
    unfold closL
    split
    · split
      · exact closL_acc cells r _ p (.tail _ m)
      · exact closL_acc cells r _ p m
    · exact closL_acc cells r _ p m
theorem closL_has (cells : List (Str × Addr)) : ∀ (names : List (Str × NameKind)) (acc : List (Str × Addr)) (x : Str) (c : Addr), (x, .free) ∈ names → cells.lookup x = some c → (x, c) ∈ closL cells names acc
  | [], acc, x, c, m, _ => nomatch m
  | (n, k) :: r, acc, x, c, m, e => by
    unfold closL
    rcases List.mem_cons.mp m with q | m
    · cases q
      rw [if_pos free_beq, e]
      exact closL_acc cells r _ _ (.head _)
    · split
      · split
        · exact closL_has cells r _ x c m e
        · exact closL_has cells r _ x c m e
      · exact closL_has cells r _ x c m e
theorem cellsFrom_mem : ∀ (names : List (Str × NameKind)) (n : Nat) (acc : List (Str × Addr)) (x : Str) (c : Addr), (x, c) ∈ cellsFrom n names acc → (x, c) ∈ acc ∨ ((x, c) ∈ cellsFrom n names [] ∧ (x, .cell) ∈ names ∧ n ≤ c)
  | [], n, acc, x, c, m => .inl m
  | (y, k) :: r, n, acc, x, c, m => by
    unfold cellsFrom at m ⊢
    split at m
    · rename_i hk
      have hk' : k = .cell := by cases k <;> first | rfl | cases hk
      subst hk'
      rw [if_pos cell_beq]
      rcases cellsFrom_mem r (n + 1) _ x c m with q | q
      · rcases List.mem_cons.mp q with q | q
        · cases q
          exact .inr ⟨cellsFrom_acc r _ _ _ (.head _), .head _, Nat.le_refl _⟩
        · exact .inl q
      · exact .inr ⟨cellsFrom_up r (n + 1) _ _ _ q.1 (fun _ m => nomatch m), .tail _ q.2.1, Nat.le_of_succ_le q.2.2⟩
    · rename_i hk
      rw [if_neg hk]
      exact (cellsFrom_mem r n _ x c m).imp_right fun q => ⟨q.1, .tail _ q.2.1, q.2.2⟩
where
  cellsFrom_acc : ∀ (names : List (Str × NameKind)) (n : Nat) (acc : List (Str × Addr)) (p : Str × Addr), p ∈ acc → p ∈ cellsFrom n names acc
    | [], n, acc, p, m => m
    | (y, k) :: r, n, acc, p, m => by
      unfold cellsFrom
      split
      · exact cellsFrom_acc r _ _ p (.tail _ m)
      · exact cellsFrom_acc r _ _ p m
  cellsFrom_up : ∀ (names : List (Str × NameKind)) (n : Nat) (acc acc' : List (Str × Addr)) (p : Str × Addr), p ∈ cellsFrom n names acc → (∀ q ∈ acc, q ∈ acc') → p ∈ cellsFrom n names acc'
    | [], n, acc, acc', p, m, h => h p m
    | (y, k) :: r, n, acc, acc', p, m, h => by
      unfold cellsFrom at m ⊢
      split at m
      · rename_i hk
        rw [if_pos hk]
        exact cellsFrom_up r _ _ _ p m fun q m => (List.mem_cons.mp m).elim (fun e => e ▸ .head _) fun m => .tail _ (h q m)
      · rename_i hk
        rw [if_neg hk]
        exact cellsFrom_up r _ _ _ p m h
theorem cellsFrom_has : ∀ (names : List (Str × NameKind)) (n : Nat) (acc : List (Str × Addr)) (x : Str), (x, .cell) ∈ names → ∃ c, (x, c) ∈ cellsFrom n names acc
  | [], n, acc, x, m => nomatch m
  | (y, k) :: r, n, acc, x, m => by
    unfold cellsFrom
    rcases List.mem_cons.mp m with q | m
    · cases q
      rw [if_pos cell_beq]
      exact ⟨n, cellsFrom_mem.cellsFrom_acc r _ _ _ (.head _)⟩
    · split
      · exact cellsFrom_has r _ _ x m
      · exact cellsFrom_has r _ _ x m
theorem lookup_of_mem {α : Type} : ∀ {l : List (Str × α)} {n : Str} {c : α}, (n, c) ∈ l → ∃ d, l.lookup n = some d
  | (k, v) :: r, n, c, h => by
    rw [List.lookup_cons]
    cases hb : n == k with
    | true => exact ⟨_, rfl⟩
    | false =>
      rcases List.mem_cons.mp h with q | q
      · cases q; simp at hb
      · exact lookup_of_mem q

theorem wp_compEnv {M : Model} {A : Around} {E : Value → Shared → Prop} {s : Shared} {scope : Scope} {globals : Addr} {cl : List (Str × Addr)} {qual : Str} {env : Env} {Q : Env → Shared → Prop}
    (h : Q { scope := scope, locals := s.heap.objs.size, globals := globals, cells := cellsFrom (s.heap.objs.size + 1) scope.names cl, qual := qual, func := none, code := env.code, frame := env.frame, builtins := env.builtins }
      { s with heap := pushCells (s.heap.push { cls := .type "dict", data := .dict #[] }) scope.names }) :
    wpAny M A (newFunctionEnv scope globals cl [] qual none .none (some env)) Q E s := by
  simp only [newFunctionEnv, Option.isSome_some, if_true]
  refine wpAny_bind (wpAny_alloc ?_)
  refine wpAny_bind (wpAny_layCells _ (fun name kind cells => by cases hkc : kind == NameKind.cell <;> simp [hkc]) _ _ _ _ ?_)
  rw [show ({ s with heap := s.heap.push { cls := .type "dict", data := .dict #[] } } : Shared).heap.objs.size = s.heap.objs.size + 1 from Heap.size_push ..]
  exact wpAny_pure h
end Mine
end

section
set_option autoImplicit false
set_option Elab.async false
set_option maxRecDepth 100000
namespace Mine

section
variable {C : Cx} {env : Env} {ρ : Rho} {h h' : Heap} {X X' μ μ' : List Addr} {σ σ' : Sto}
theorem Post.of_parts (s : St C env h X μ ρ σ) (x1 : ∀ a ∈ X', (h'.get? a).isSome) (x2 : SR C.prog C.w h' X' μ' σ') (adv : Adv (Live μ σ) h X h' X') (ext : ∃ ν, μ' = μ ++ ν ∧ ∀ a ∈ ν, h.get? a = none)
    (live : ∀ a, Live μ' σ' a → Live μ σ a ∨ h.get? a = none) (sub : ∀ a ∈ X, (h.get? a).isSome → ¬ Live μ σ a → a ∈ X') : Post C env ρ h X μ σ h' X' μ' σ' := by
  have stay : Stay h X h' X' := fun a o n e => ⟨adv.keep a o (fun l => n (s.sto.inX a l)) e, fun m => (adv.new a m).elim n fun q => by rw [e] at q; cases q⟩
  have nl' : ∀ a, (h.get? a).isSome → ¬ Live μ σ a → ¬ Live μ' σ' a := fun a e n l => (live a l).elim n fun q => by rw [q] at e; cases e
  refine ⟨⟨fun b o e => ?_, fun a m => ?_, x1, ⟨s.envOk.kind, s.envOk.glob, s.envOk.blt, ?_, ?_, s.envOk.hasCell, ?_, s.envOk.inj, ?_⟩, ?_, x2⟩, adv, ext, live, sub⟩
  · refine adv.keep b o (fun l => ?_) (s.keep b o e)
    have := s.new b (s.sto.inX b l)
    rw [this] at e; cases e
  · rcases adv.new a m with q | q
    · exact s.new a q
    · cases e : C.base.get? a with
      | none => rfl
      | some o => have := s.keep a o e; rw [q] at this; cases this
  · obtain ⟨m, hm⟩ := s.envOk.locals
    exact ⟨m, hm.at' fun o e => adv.keep _ o s.envOk.locP e⟩
  · exact sub _ s.envOk.locX (s.there _ s.envOk.locX) s.envOk.locP
  · intro y c e
    obtain ⟨h1, h2, ⟨v, o, ho, hd⟩, h4⟩ := s.envOk.cell y c e
    exact ⟨sub c h1 (s.there c h1) h4, h2, ⟨v, o, adv.keep c o h4 ho, hd⟩, nl' c (s.there c h1) h4⟩
  · exact nl' _ (s.there _ s.envOk.locX) s.envOk.locP
  · intro i y u e1 e2 e3
    obtain ⟨v, hv, hr⟩ := s.vars i y u e1 e2 e3
    refine ⟨v, ?_, ?_⟩
    · rcases hv with ⟨k, m, hn, hx⟩ | ⟨k, c, hcc, o, ho, hd⟩
      · exact .inl ⟨k, m, hn.at' fun o e => adv.keep _ o s.envOk.locP e, hx⟩
      · exact .inr ⟨k, c, hcc, o, adv.keep c o (s.envOk.cell y c hcc).2.2.2 ho, hd⟩
    · obtain ⟨ν, e, _⟩ := ext
      rw [e]; exact hr.stay stay

/-- a new object enters the store -/
theorem Post.addObj {D : Addr} {o : SO} (s : St C env h X μ ρ σ) (P : Post C env ρ h X μ σ h' X' μ' σ') (hD : h.get? D = none) (hX : D ∈ X') (hμ : D ∉ μ') (r : RO C.prog C.w h' X' (μ' ++ [D]) D o) :
    Post C env ρ h X μ σ h' X' (μ' ++ [D]) (σ' ++ [some o]) := by
  have len := P.st.sto.len
  have liv : ∀ a, Live (μ' ++ [D]) (σ' ++ [some o]) a → Live μ' σ' a ∨ a = D := by
    rintro a ⟨n, p, h1, h2⟩
    by_cases c : n < μ'.length
    · rw [List.getElem?_append_left c] at h1
      rw [List.getElem?_append_left (len ▸ c)] at h2
      exact .inl ⟨n, p, h1, h2⟩
    · rw [List.getElem?_append_right (Nat.not_lt.mp c)] at h1
      right
      have := List.mem_of_getElem? h1
      exact List.mem_singleton.mp this
  refine Post.of_parts s P.st.there ⟨?_, ?_, ?_, ?_, ?_⟩ P.adv ?_ ?_ P.sub
  · rw [List.length_append, List.length_append, len]; rfl
  · rw [List.nodup_append]
    exact ⟨P.st.sto.nodup, by simp, fun a m b m' e => hμ (List.mem_singleton.mp m' ▸ e ▸ m)⟩
  · intro a m
    rcases List.mem_append.mp m with m | m
    · exact P.st.sto.there a m
    · exact P.st.there a (List.mem_singleton.mp m ▸ hX)
  · intro a l
    rcases liv a l with l | rfl
    · exact P.st.sto.inX a l
    · exact hX
  · intro n a p h1 h2
    by_cases c : n < μ'.length
    · rw [List.getElem?_append_left c] at h1
      rw [List.getElem?_append_left (len ▸ c)] at h2
      exact (P.st.sto.obj n a p h1 h2).stay (fun _ _ n e => ⟨e, n⟩) fun _ e => e
    · rw [List.getElem?_append_right (Nat.not_lt.mp c)] at h1
      rw [List.getElem?_append_right (len ▸ Nat.not_lt.mp c), ← len] at h2
      cases k : n - μ'.length with
      | zero =>
        rw [k] at h1 h2
        simp only [List.getElem?_cons_zero, Option.some.injEq] at h1 h2
        subst h1; subst h2
        exact r
      | succ j => rw [k] at h1; simp at h1
  · obtain ⟨ν, e, f⟩ := P.ext
    refine ⟨ν ++ [D], by rw [e, List.append_assoc], fun a m => ?_⟩
    rcases List.mem_append.mp m with m | m
    · exact f a m
    · rw [List.mem_singleton.mp m]; exact hD
  · intro a l
    rcases liv a l with l | rfl
    · exact P.live a l
    · exact .inr hD
end

-- a comprehension's scope ---------------------------------------------------------------------------------------------------
noncomputable def relabelS (scope sc : Scope) : Scope := { scope with names := scope.names.map fun (n, k) => if (k == .free && sc.kind == .function && sc.names.lookup n == some .cell) then (n, .cell) else (n, k) }
noncomputable def delR (ds : List Nat) : Rho → Rho
  | [] => []
  | (j, v) :: r => match ds.any (Nat.beq j) with
    | true => delR ds r
    | false => (j, v) :: delR ds r
theorem lk_delR (ds : List Nat) (i : Nat) : ∀ (ρ : Rho) (u : V), lk (delR ds ρ) i = some u → lk ρ i = some u ∧ i ∉ ds
  | [], u, h => by cases h
  | (j, v) :: r, u, h => by
    unfold delR at h
    split at h
    · rename_i hj
      obtain ⟨h1, h2⟩ := lk_delR ds i r u h
      refine ⟨?_, h2⟩
      unfold lk
      have : j ≠ i := fun q => by
        obtain ⟨x, m, e⟩ := List.any_eq_true.mp hj
        exact h2 (q ▸ Nat.eq_of_beq_eq_true e ▸ m)
      rw [PySem.W.S.beq_off this]; exact h1
    · rename_i hj
      unfold lk at h ⊢
      split at h
      · rename_i e
        refine ⟨h, fun m => ?_⟩
        have := List.any_eq_false.mp hj i m
        rw [e] at this; exact this rfl
      · exact lk_delR ds i r u h

structure CompOk (C : Cx) (sc scope : Scope) (dels : List Nat) (ns : List Str) : Prop where
  kind : scope.kind = .function
  names : ∀ x ∈ scope.names, x.2 = .local → scope.names.lookup x.1 = some .local
  free : ∀ x ∈ scope.names, x.2 = .free → sc.names.lookup x.1 = some .cell ∨ sc.names.lookup x.1 = some .free
  dels : ∀ x ∈ scope.names, (x.2 = .local ∨ x.2 = .cell) → ∀ i, C.tab[i]? = some x.1 → i ∈ dels
  ns : ∀ x ∈ ns, (x, NameKind.free) ∉ scope.names

theorem relabelS_mem {scope sc : Scope} {x : Str} {k : NameKind} (h : (x, k) ∈ (relabelS scope sc).names) : (x, k) ∈ scope.names ∨ (k = .cell ∧ (x, .free) ∈ scope.names) := by
  obtain ⟨⟨n, k'⟩, m, e⟩ := List.mem_map.mp h
  dsimp only at e
  split at e
  · rename_i hc
    cases e
    simp only [Bool.and_eq_true, beq_iff_eq] at hc
    exact .inr ⟨rfl, hc.1.1 ▸ m⟩
  · cases e; exact .inl m

section
variable {C : Cx} {sc scope : Scope} {dels : List Nat} {ns : List Str}


structure Entered (C : Cx) (cenv env : Env) (scope : Scope) (D : Addr) (dels : List Nat) (ns : List Str) (h : Heap) (X μ : List Addr) (ρ : Rho) (σ : Sto) (h' : Heap) (X' : List Addr) : Prop where
  st : St C cenv h' X' μ (delR dels ρ) σ
  keep : ∀ b o, h.get? b = some o → h'.get? b = some o
  acc : AccAt C h' X' μ D []
  accOk : AccOk cenv X' μ D
  newD : h.get? D = none
  newL : h.get? cenv.locals = none
  newX : ∀ a ∈ X', a ∈ X ∨ h.get? a = none
  sub : ∀ a ∈ X, a ∈ X'
  own : ∀ a, Own cenv ns a → h.get? a = none
  DL : D ≠ cenv.locals
  cells : ∀ x c, cenv.cells.lookup x = some c → h.get? c = none ∨ env.cells.lookup x = some c

theorem comp_enter (ok : CompOk C sc scope dels ns) {A : Around} {env : Env} {s : Shared} {X μ : List Addr} {ρ : Rho} {σ : Sto} {E : Value → Shared → Prop} {Q : Value → Env → Shared → Prop}
    (he : env.scope = sc) (hs : St C env s.heap X μ ρ σ)
    (hQ : ∀ D cenv h' X', cenv.scope = relabelS scope sc → Entered C cenv env scope D dels ns s.heap X μ ρ σ h' X' → Q (.ref D) cenv { s with heap := h' }) :
    wpAny (model C.prog C.w) A (newList []) (fun acc s₃ => wpAny (model C.prog C.w) A (newFunctionEnv scope env.globals (closL env.cells scope.names []) [] env.qual none .none (some env)) (fun cenv s₄ =>
      Q acc { cenv with scope := relabel scope env } s₄) E s₃) E s := by
  refine wpAny_newList (wp_compEnv ?_) (by simp)
  generalize hh1 : s.heap.push { cls := .type "list", dict := none, data := .seq ([] : List Value).toArray } = h1
  dsimp only
  have k1 : ∀ b o, s.heap.get? b = some o → h1.get? b = some o := fun b o e => hh1 ▸ Heap.get?_push_of_some _ e
  have z1 : h1.objs.size = s.heap.objs.size + 1 := by rw [← hh1, Heap.size_push]
  generalize hL : h1.objs.size = L
  generalize hh2 : h1.push { cls := .type "dict", data := .dict #[] } = h2
  have k2 : ∀ b o, h1.get? b = some o → h2.get? b = some o := fun b o e => hh2 ▸ Heap.get?_push_of_some _ e
  have z2 : h2.objs.size = L + 1 := by rw [← hh2, Heap.size_push, hL]
  have k3 : ∀ b o, h2.get? b = some o → (pushCells h2 scope.names).get? b = some o := pushCells_keeps _ _
  have k : ∀ b o, s.heap.get? b = some o → (pushCells h2 scope.names).get? b = some o := fun b o e => k3 b o (k2 b o (k1 b o e))
  have nD : s.heap.get? s.heap.objs.size = none := get?_size _
  have nL : s.heap.get? L = none := Heap.get?_none_of_le (by rw [← hL, z1]; omega)
  have cok := cellsFrom_ok scope.names h2 (L + 1) [] ⟨fun _ _ hm => (nomatch hm), List.Pairwise.nil⟩ (by rw [z2]; exact Nat.le_refl _)
  rw [z2] at cok
  have hns : (pushCells h2 scope.names).Ns L fun _ => none := by
    have := (Heap.Ns.new h1 (.type "dict")).keeps (h' := pushCells h2 scope.names) (fun b o e => k3 b o (hh2 ▸ e))
    rwa [hL] at this
  have hacc : (pushCells h2 scope.names).PlainList s.heap.objs.size #[] := ⟨0, k3 _ _ (k2 _ _ (by rw [← hh1]; exact Heap.get?_push_size _ rfl))⟩
  -- the cells
  have cmem : ∀ x c, (cellsFrom (L + 1) scope.names (closL env.cells scope.names [])).lookup x = some c →
      ((x, NameKind.free) ∈ scope.names ∧ env.cells.lookup x = some c) ∨ ((x, c) ∈ cellsFrom (L + 1) scope.names [] ∧ (x, NameKind.cell) ∈ scope.names ∧ L + 1 ≤ c ∧ (pushCells h2 scope.names).IsCell c none) := fun x c e => by
    rcases cellsFrom_mem _ _ _ _ _ (mem_of_lookup e) with q | ⟨q1, q2, q3⟩
    · rcases closL_mem _ _ _ _ _ q with q | q
      · cases q
      · exact .inl q
    · exact .inr ⟨q1, q2, q3, (cok.empty x c q1).1⟩
  have nC : ∀ c, L + 1 ≤ c → s.heap.get? c = none := fun c hc => Heap.get?_none_of_le (by omega)
  have oldC : ∀ x c, env.cells.lookup x = some c → c < s.heap.objs.size := fun x c e => by
    obtain ⟨o, ho⟩ := Option.isSome_iff_exists.mp (hs.there c (hs.envOk.cell x c e).1)
    exact Heap.lt_size ho
  let X' := s.heap.objs.size :: L :: ((cellsFrom (L + 1) scope.names []).map (·.2) ++ X)
  have hX' : X' = s.heap.objs.size :: L :: ((cellsFrom (L + 1) scope.names []).map (·.2) ++ X) := rfl
  clear_value X'
  have inNew : ∀ c ∈ (cellsFrom (L + 1) scope.names []).map (·.2), L + 1 ≤ c ∧ (pushCells h2 scope.names).IsCell c none := fun c m => by
    obtain ⟨⟨x, c'⟩, m', rfl⟩ := List.mem_map.mp m
    replace m := m'
    exact ⟨(cok.empty x c' m).2, (cok.empty x c' m).1⟩
  have hnewX : ∀ a ∈ X', a ∈ X ∨ s.heap.get? a = none := fun a m => by
    rw [hX'] at m
    rcases List.mem_cons.mp m with rfl | m
    · exact .inr nD
    · rcases List.mem_cons.mp m with rfl | m
      · exact .inr nL
      · rcases List.mem_append.mp m with m | m
        · exact .inr (nC a (inNew a m).1)
        · exact .inl m
  have hsubX : ∀ a ∈ X, a ∈ X' := fun a m => by rw [hX']; exact .tail _ (.tail _ (List.mem_append.mpr (.inr m)))
  have nlive : ∀ a, s.heap.get? a = none → ¬ Live μ σ a := fun a e ⟨n, o, h1, _⟩ => by
    have := hs.sto.there a (List.mem_of_getElem? h1)
    rw [e] at this; cases this
  have hsz : L = s.heap.objs.size + 1 := by rw [← hL, z1]
  have base : ∀ a, s.heap.get? a = none → C.base.get? a = none := fun a e => by
    cases q : C.base.get? a with
    | none => rfl
    | some o => rw [hs.keep a o q] at e; cases e
  have ltL : ∀ c : Nat, c < s.heap.objs.size → ¬ (L + 1 ≤ c) ∧ c ≠ L := fun c hc => ⟨fun q => by have : s.heap.objs.size + 1 + 1 ≤ c := hsz ▸ q; omega, fun q => by have : c = s.heap.objs.size + 1 := q.trans hsz; omega⟩
  subst he
  have st' : St C { scope := relabel scope env, locals := L, globals := env.globals, cells := cellsFrom (L + 1) scope.names (closL env.cells scope.names []), qual := env.qual, func := none, code := env.code, frame := env.frame, builtins := env.builtins }
      (pushCells h2 scope.names) X' μ (delR dels ρ) σ := by
    have s' := hs.keeps k
    refine ⟨s'.keep, fun a m => (hnewX a m).elim (hs.new a) (base a), fun a m => ?_, ⟨ok.kind, hs.envOk.glob, hs.envOk.blt, ⟨_, hns⟩, ?_, ?_, ?_, ?_, nlive L nL⟩, ?_, ⟨s'.sto.len, s'.sto.nodup, s'.sto.there, fun a l => hsubX a (hs.sto.inX a l), ?_⟩⟩
    · rw [hX'] at m
      rcases List.mem_cons.mp m with rfl | m
      · obtain ⟨n, e⟩ := hacc
        rw [e]; rfl
      · rcases List.mem_cons.mp m with rfl | m
        · obtain ⟨o, _, _, ho, _⟩ := hns
          rw [ho]; rfl
        · rcases List.mem_append.mp m with m | m
          · obtain ⟨o, ho, _⟩ := (inNew a m).2
            rw [ho]; rfl
          · exact s'.there a m
    · rw [hX']; exact .tail _ (.head _)
    · intro x hx
      have hx' : ∃ c, (x, c) ∈ cellsFrom (L + 1) scope.names (closL env.cells scope.names []) := by
        have mem : (x, NameKind.cell) ∈ scope.names ∨ (x, NameKind.free) ∈ scope.names := by
          rcases hx with hx | hx
          · rcases relabelS_mem (sc := env.scope) (mem_of_lookup hx) with q | q
            · exact .inl q
            · exact .inr q.2
          · rcases relabelS_mem (sc := env.scope) (mem_of_lookup hx) with q | q
            · exact .inr q
            · cases q.1
        rcases mem with m | m
        · exact cellsFrom_has _ _ _ _ m
        · obtain ⟨c, hc⟩ := hs.envOk.hasCell x (ok.free _ m rfl)
          exact ⟨c, cellsFrom_mem.cellsFrom_acc _ _ _ _ (closL_has _ _ _ _ _ m hc)⟩
      obtain ⟨c, hc⟩ := hx'
      exact lookup_of_mem hc
    · intro x c e
      rcases cmem x c e with ⟨q1, q2⟩ | ⟨q1, q2, q3, q4⟩
      · obtain ⟨h1, h2, ⟨v, hv⟩, h4⟩ := hs.envOk.cell x c q2
        exact ⟨hsubX c h1, fun e' => (ltL c (oldC x c q2)).2 e', ⟨v, hv.keeps k⟩, h4⟩
      · refine ⟨?_, fun e' => Nat.lt_irrefl L (Nat.lt_of_lt_of_le (Nat.lt_succ_self L) ((show c = L from e') ▸ q3)), ⟨_, q4⟩, nlive c (nC c q3)⟩
        rw [hX']
        exact .tail _ (.tail _ (List.mem_append.mpr (.inl (List.mem_map.mpr ⟨_, q1, rfl⟩))))
    · intro x y c e1 e2
      rcases cmem x c e1 with ⟨q1, q2⟩ | ⟨q1, q2, q3, q4⟩ <;> rcases cmem y c e2 with ⟨r1, r2⟩ | ⟨r1, r2, r3, r4⟩
      · exact hs.envOk.inj x y c q2 r2
      · exact absurd r3 (ltL c (oldC x c q2)).1
      · exact absurd q3 (ltL c (oldC y c r2)).1
      · exact name_of_addr cok.apart q1 r1
    · intro i x u e1 e2 e3
      obtain ⟨g1, g2⟩ := lk_delR _ _ _ _ e2
      have kind : ∀ kd, (relabel scope env).names.lookup x = some kd → (kd = .local ∨ kd = .cell ∨ kd = .free) → (x, NameKind.free) ∈ scope.names ∧ kd ≠ .local := fun kd hk hkd => by
        rcases relabelS_mem (sc := env.scope) (mem_of_lookup hk) with q | q
        · rcases hkd with rfl | rfl | rfl
          · exact absurd (ok.dels _ q (.inl rfl) i e1) g2
          · exact absurd (ok.dels _ q (.inr rfl) i e1) g2
          · exact ⟨q, by simp⟩
        · exact ⟨q.2, by rw [q.1]; simp⟩
      have key : (x, NameKind.free) ∈ scope.names ∧ ((relabel scope env).names.lookup x = some .cell ∨ (relabel scope env).names.lookup x = some .free) := by
        rcases e3 with e3 | e3 | e3
        · exact absurd rfl (kind _ e3 (.inl rfl)).2
        · exact ⟨(kind _ e3 (.inr (.inl rfl))).1, .inl e3⟩
        · exact ⟨(kind _ e3 (.inr (.inr rfl))).1, .inr e3⟩
      obtain ⟨m, hk⟩ := key
      have ho := ok.free _ m rfl
      obtain ⟨v, hv, hr⟩ := hs.vars i x u e1 g1 (.inr ho)
      refine ⟨v, ?_, hr.stay0 fun a o n e => ⟨k a o e, fun m => (hnewX a m).elim n fun q => by rw [q] at e; cases e⟩⟩
      rcases hv with ⟨kl, _⟩ | ⟨_, c, hcc, hx⟩
      · rcases ho with ho | ho
        · rw [show env.kindOf x = some .cell from ho] at kl; cases kl
        · rw [show env.kindOf x = some .free from ho] at kl; cases kl
      · refine .inr ⟨hk, c, ?_, hx.keeps k⟩
        have hm : (x, c) ∈ cellsFrom (L + 1) scope.names (closL env.cells scope.names []) := cellsFrom_mem.cellsFrom_acc _ _ _ _ (closL_has _ _ _ _ _ m hcc)
        obtain ⟨d, hd⟩ := lookup_of_mem hm
        rcases cmem x d hd with ⟨q1, q2⟩ | ⟨q1, q2, q3, q4⟩
        · rw [hcc] at q2; cases q2; exact hd
        · exact absurd (ok.dels _ q2 (.inr rfl) i e1) g2
    · intro n a o h1 h2
      exact (hs.sto.obj n a o h1 h2).stay0 (fun a o n e => ⟨k a o e, fun m => (hnewX a m).elim n fun q => by rw [q] at e; cases e⟩) fun o e => k a o e
  refine hQ s.heap.objs.size _ _ X' rfl ⟨st', k, ?_, ?_, nD, nL, hnewX, hsubX, ?_, ?_, fun x c e => (cmem x c e).elim (fun q => .inr q.2) fun q => .inl (nC c q.2.2.1)⟩
  · exact ⟨[], hacc, .nil⟩
  · refine ⟨by rw [hX']; exact .head _, notin_mu hs.sto nD, by rw [hsz]; exact Nat.ne_of_lt (Nat.lt_succ_self _), fun x c e q => ?_, notin_mu hs.sto nL⟩
    subst q
    rcases cmem x _ e with ⟨q1, q2⟩ | ⟨q1, q2, q3, q4⟩
    · exact absurd (oldC x _ q2) (Nat.lt_irrefl _)
    · omega
  · rintro a (rfl | ⟨x, m, e⟩)
    · exact nL
    · rcases cmem x a e with ⟨q1, q2⟩ | ⟨q1, q2, q3, q4⟩
      · exact absurd q1 (ok.ns x m)
      · exact nC a q3
  · show s.heap.objs.size ≠ L
    omega
end
end Mine
end

section
set_option autoImplicit false
set_option Elab.async false
set_option maxRecDepth 100000
namespace Mine

section
variable {C : Cx} {sc scope : Scope} {dels : List Nat} {ns : List Str} {dp : Nat}

theorem comp_exit {env cenv : Env} {ρ ρ₀ : Rho} {D : Addr} {h h' h'' : Heap} {X X₃ X' μ μ' : List Addr} {σ σ' : Sto} {vs : List V} (p : Addr → Bool) (hs : St C env h X μ ρ σ) (nD : h.get? D = none) (nL : h.get? cenv.locals = none)
    (own : ∀ a, Own cenv ns a → h.get? a = none) (P : CP C cenv ρ₀ D ns [] h X μ σ h' X' μ' σ') (a : AccAt C h' X' μ' D vs) (ok : AccOk cenv X' μ' D)
    (sb : Heap.SameBut cenv.locals h' h'') (hp : ∀ b, b ≠ D → b ≠ cenv.locals → p b = true) (hpl : p cenv.locals = true → h'' = h') :
    Post C env ρ h X μ σ h'' (X'.filter p) μ' σ' ∧ AccAt C h'' (X'.filter p) μ' D vs := by
  have e' : ∀ b o, b ≠ cenv.locals → h'.get? b = some o → h''.get? b = some o := fun b o n e => (sb.2 b n).trans e
  have hL : cenv.locals ∈ X' := P.st.envOk.locX
  have stay : Stay h' X' h'' (X'.filter p) := fun b o n e => ⟨e' b o (fun q => n (q ▸ hL)) e, fun m => n (List.mem_filter.mp m).1⟩
  have ne : ∀ b, (h.get? b).isSome → b ≠ D ∧ b ≠ cenv.locals := fun b e => ⟨fun q => (by rw [q, nD] at e; cases e), fun q => (by rw [q, nL] at e; cases e)⟩
  have some_of : ∀ b, b ≠ cenv.locals → (h'.get? b).isSome → (h''.get? b).isSome := fun b n e => by rw [sb.2 b n]; exact e
  refine ⟨Post.of_parts hs ?_ ⟨P.st.sto.len, P.st.sto.nodup, ?_, ?_, ?_⟩ ⟨?_, ?_, ?_⟩ P.ext P.live ?_, a.stay0 (fun o e => e' D o ok.loc e) stay⟩
  · intro b m
    obtain ⟨m1, m2⟩ := List.mem_filter.mp m
    by_cases q : b = cenv.locals
    · rw [q] at m2 ⊢
      rw [hpl m2]
      exact P.st.there _ hL
    · exact some_of b q (P.st.there b m1)
  · intro b m
    exact some_of b (fun q => ok.locn (q ▸ m)) (P.st.sto.there b m)
  · intro b l
    refine List.mem_filter.mpr ⟨P.st.sto.inX b l, ?_⟩
    obtain ⟨n, o, h1, _⟩ := id l
    have m := List.mem_of_getElem? h1
    exact hp b (fun q => ok.notin (q ▸ m)) fun q => ok.locn (q ▸ m)
  · intro n b o h1 h2
    exact (P.st.sto.obj n b o h1 h2).stay0 stay fun o e => e' b o (fun q => ok.locn (q ▸ List.mem_of_getElem? h1)) e
  · intro b o n e
    have hb := ne b (by rw [e]; rfl)
    exact e' b o hb.2 (P.keep b o n (fun q => by rw [own b q] at e; cases e) hb.1 (by simp) e)
  · intro b e
    exact some_of b (ne b e).2 (P.there b (by simp) e)
  · intro b m
    exact P.new b (List.mem_filter.mp m).1
  · intro b m e n
    exact List.mem_filter.mpr ⟨P.sub b m e n (by simp), hp b (ne b e).1 (ne b e).2⟩

/-- a comprehension's items -/
noncomputable def compL (dels : List Nat) (ds : DL) (T : Tg) (f : Rho → Sto → Option (List V × Sto)) : DL := fun ρ σ => match ds ρ σ with
  | none => none
  | some (xs, σ₁) => match loopL (turnL (delR dels ρ) T f) xs σ₁ with
    | none => none
    | some (vs, σ₂) => match Nat.ble vs.length 100000 with
      | true => some (vs, σ₂)
      | false => none
noncomputable def Tg.all : Tg → (Nat → Bool) → Bool
  | .one i, p => p i
  | .many is, p => is.all p
theorem fresh_dels {T : Tg} {dels : List Nat} (h : T.all (fun i => dels.contains i) = true) (ρ : Rho) : freshT T (delR dels ρ) = true := by
  have key : ∀ i, dels.contains i = true → (lk (delR dels ρ) i).isNone = true := fun i hi => by
    cases e : lk (delR dels ρ) i with
    | none => rfl
    | some u => exact absurd (List.contains_iff_mem.mp hi) (lk_delR dels i ρ u e).2
  cases T with
  | one i => exact key i h
  | many is => exact List.all_eq_true.mpr fun i m => key i (List.all_eq_true.mp h i m)

theorem comp_core (ok : CompOk C sc scope dels ns) {tgt iter elt : Expr} {ifs : List Expr} {gs : List Comprehension} {pos : Pos} {ds : DL} {T : Tg} {f : Rho → Sto → Option (List V × Sto)}
    {tail : Around → Value → Env → (Unit → Shared → Prop) → (Value → Shared → Prop) → Shared → Prop}
    (hs : ∀ env x, foldedSetIterable iter env x = pure x) (hi : SI C dp sc tgt iter ds) (hT : SA C (relabelS scope sc) tgt ns T) (hfr : T.all (fun i => dels.contains i) = true)
    (hturn : ∀ (A : Around) (it acc : Value) (cenv : Env) (s : Shared) (Q : Fin → Shared → Prop) (E : Value → Shared → Prop), wpAny (model C.prog C.w) A (pyNext it) (fun r s₁ => match r with
      | none => Q (.done .next) s₁
      | some v => wpAny (model C.prog C.w) A (letOwnedTupleGo tgt it v) (fun _ s₂ => wpAny (model C.prog C.w) A (assign tgt cenv v) (fun _ s₃ => tail A acc cenv
          (fun _ s₄ => Q (.again (.compLoop (.ListComp elt (⟨tgt, iter, ifs, 0⟩ :: gs) scope pos) 0 it acc cenv)) s₄) E s₃) E s₂) E s₁) E s →
      wpAny (model C.prog C.w) A (compTurn (.ListComp elt (⟨tgt, iter, ifs, 0⟩ :: gs) scope pos) 0 it acc cenv) Q E s)
    (htail : ∀ A cenv D, ARoom A dp → cenv.scope = relabelS scope sc → CTail C cenv D ns (tail A (.ref D) cenv) f)
    {A : Around} {env : Env} {s : Shared} {X μ : List Addr} {ρ : Rho} {σ : Sto} {vs : List V} {σ' : Sto} {use : Option (Value → Sem Unit)} {Q : Value → Shared → Prop} {E : Value → Shared → Prop}
    (he : env.scope = sc) (hA : ARoom A dp) (st : St C env s.heap X μ ρ σ) (hd : compL dels ds T f ρ σ = some (vs, σ'))
    (hQ : ∀ D cenv h' tk X' μ', s.heap.get? D = none → s.heap.get? cenv.locals = none → D ≠ cenv.locals → (∀ a, Own cenv ns a → s.heap.get? a = none) → CP C cenv (delR dels ρ) D ns [] s.heap X μ σ h' X' μ' σ' → AccAt C h' X' μ' D vs → AccOk cenv X' μ' D →
      compPost (model C.prog C.w) A E use Q (.ref D) cenv.locals (.ok .next) { s with heap := h', toks := tk }) :
    wpAny (model C.prog C.w) A (comprehension (.ListComp elt (⟨tgt, iter, ifs, 0⟩ :: gs) scope pos) scope env (firstIterPos (⟨tgt, iter, ifs, 0⟩ :: gs) pos) (newList []) false (eval iter env) use) Q E s := by
  unfold compL at hd
  split at hd
  · cases hd
  · rename_i xs σ₁ h1
    split at hd
    · cases hd
    · rename_i vs' σ₂ h2
      split at hd
      · rename_i hle
        cases hd
        refine wpAny_comprehension_free rfl (hs env) (closureFor_eq fun x m e => ?_) ok.kind ok.names ?_
        · obtain ⟨c, hc⟩ := st.envOk.hasCell x.1 (by have := ok.free x m e; rwa [← he] at this)
          rw [hc]; rfl
        refine hi A env s X μ ρ σ xs σ₁ _ E he hA st h1 fun I wr S h₁ tk₁ X₁ μ₁ P₁ hw hI hS => ?_
        refine comp_enter ok (s := { s with heap := h₁, toks := tk₁ }) (Q := fun acc cenv s₄ => codeAny (model C.prog C.w) A (.compStart (.ListComp elt (⟨tgt, iter, ifs, 0⟩ :: gs) scope pos) 0 (.ref I) acc cenv) (compPost (model C.prog C.w) A E use Q acc cenv.locals) s₄) he P₁.st fun D cenv h₃ X₃ hsc en => ?_
        have hwr : ∀ b ∈ wr, s.heap.get? b = none := fun b m => (hw b m).2.1
        have hwe : ∀ b ∈ wr, (h₁.get? b).isSome := fun b m => P₁.st.there b (hw b m).1
        have P₃ : CP C cenv (delR dels ρ) D ns [] s.heap X μ σ h₃ X₃ μ₁ σ₁ := by
          refine ⟨en.st, fun b o n _ _ _ e => en.keep b o (P₁.adv.keep b o n e), fun b _ e => isSome_of_keeps en.keep (P₁.adv.there b e), fun b m => (en.newX b m).elim (P₁.adv.new b) fun q => .inr (none_back P₁.adv.there q), P₁.ext, P₁.live, fun b m e n _ => en.sub b (P₁.sub b m e n)⟩
        have S₃ : S X₃ h₃ xs := hI.frame _ _ _ _ _ hS (fun b o n e => ⟨en.keep b o e, fun m => (en.newX b m).elim n fun q => by rw [q] at e; cases e⟩) fun b m o e => en.keep b o e
        have nw : ∀ b, h₁.get? b = none → b ∉ wr := fun b q m => by have := hwe b m; rw [q] at this; cases this
        have nc : ∀ x c, cenv.cells.lookup x = some c → c ∉ wr := fun x c e m => by
          rcases en.cells x c e with q | q
          · exact nw c q m
          · have := st.there c (st.envOk.cell x c q).1
            rw [hwr c m] at this; cases this
        have loop := comp_loop (A := A) (cenv := cenv) (D := D) (ns := ns) (gens := ⟨tgt, iter, ifs, 0⟩ :: gs) (scope := scope) (pos := pos) (depth := 0) (elt := elt) (s₀ := s) (R := compPost (model C.prog C.w) A E use Q (.ref D) cenv.locals) hA.1 (fun s Q E h => hturn A (.ref I) (.ref D) cenv s Q E h) hI (hsc ▸ hT) (fun _ m => m) (htail A cenv D hA hsc)
          (fresh_of (fresh_dels hfr ρ)) hwr (nw D en.newD) (nw _ en.newL) nc xs { s with heap := h₃, toks := tk₁ } X₃ μ₁ σ₁ [] vs σ' ⟨_, _, rfl⟩ P₃ en.acc en.accOk S₃ (fun b m => ⟨en.sub b (hw b m).1, (hw b m).2.2⟩) h2 (by simpa using Nat.le_of_ble_eq_true hle)
          (fun h₄ tk₄ X₄ μ₄ c4 a4 ok4 => hQ D cenv h₄ tk₄ X₄ μ₄ (none_back P₁.adv.there en.newD) (none_back P₁.adv.there en.newL) en.DL (fun a o => none_back P₁.adv.there (en.own a o)) c4 a4 ok4)
        exact codeAny_compStart_list loop (hI.self X₃ _ xs _ _ S₃ loop)
      · cases hd
end
end Mine
end

section
set_option autoImplicit false
set_option Elab.async false
set_option maxRecDepth 100000
namespace Mine

/-- the expression makes a new list -/
noncomputable def SF (C : Cx) (dp : Nat) (sc : Scope) (e : Expr) (d : DL) : Prop :=
  ∀ (A : Around) (env : Env) (s : Shared) (X μ : List Addr) (ρ : Rho) (σ : Sto) (us : List V) (σ' : Sto) (Q : Value → Shared → Prop) (E : Value → Shared → Prop),
    env.scope = sc → ARoom A dp → St C env s.heap X μ ρ σ → d ρ σ = some (us, σ') →
    (∀ D vals h' tk X' μ', Post C env ρ s.heap X μ σ h' X' μ' σ' → D ∈ X' → D ∉ μ' → s.heap.get? D = none → h'.PlainList D vals.toArray → RVs C h' X' μ' vals us → Q (.ref D) { s with heap := h', toks := tk }) →
    wpAny (model C.prog C.w) A (eval e env) Q E s

noncomputable def mutD (ds : DL) : DE := fun ρ σ => match ds ρ σ with
  | none => none
  | some (vs, σ₁) => some (.loc σ₁.length, σ₁ ++ [some (.list vs)])

section
variable {C : Cx} {dp : Nat} {sc : Scope}

theorem Post.drop {env : Env} {h h' : Heap} {X X' μ μ' : List Addr} {ρ : Rho} {σ σ' : Sto} {D : Addr} (s : St C env h X μ ρ σ) (P : Post C env ρ h X μ σ h' X' μ' σ') (hD : h.get? D = none) (hμ : D ∉ μ') :
    Post C env ρ h X μ σ h' (X'.filter fun b => decide (b ≠ D)) μ' σ' := by
  have stay : Stay h' X' h' (X'.filter fun b => decide (b ≠ D)) := fun b o n e => ⟨e, fun m => n (List.mem_filter.mp m).1⟩
  refine Post.of_parts s (fun a m => P.st.there a (List.mem_filter.mp m).1) ⟨P.st.sto.len, P.st.sto.nodup, P.st.sto.there, fun a l => List.mem_filter.mpr ⟨P.st.sto.inX a l, ?_⟩, fun n a o h1 h2 => (P.st.sto.obj n a o h1 h2).stay0 stay fun _ e => e⟩
    ⟨P.adv.keep, P.adv.there, fun a m => P.adv.new a (List.mem_filter.mp m).1⟩ P.ext P.live fun a m e n => List.mem_filter.mpr ⟨P.sub a m e n, ?_⟩
  · obtain ⟨n, o, h1, _⟩ := l
    have m := List.mem_of_getElem? h1
    simpa using fun q : a = D => hμ (q ▸ m)
  · simpa using fun q : a = D => by rw [q, hD] at e; cases e

theorem SF_freeze {e : Expr} {d : DL} (h : SF C dp sc e d) : SE C dp sc e (opND lstV d) := by
  intro A env s X μ ρ σ u σ' Q E he hA hs hd hQ
  unfold opND at hd
  split at hd
  · cases hd
  · rename_i us σ₁ h1
    split at hd
    · rename_i c h2
      cases hd
      unfold lstV at h2
      split at h2
      · rename_i hn
        split at h2
        · cases h2
          refine h A env s X μ ρ σ us σ' Q E he hA hs h1 fun D vals h' tk X' μ' P m1 m2 m3 hl r => ?_
          have P' := P.drop hs m3 m2
          refine hQ (.ref D) h' tk _ μ' P' (RF.lst hl (fun m => by simpa using (List.mem_filter.mp m).2) r.1 fun i v x e e' => ?_)
          exact ((r.toRFs hn).2 i v x e e').stay fun b o n e => ⟨e, fun m => n (List.mem_filter.mp m).1⟩
        · cases h2
      · cases h2
    · cases hd

theorem SF_thaw {e : Expr} {d : DL} (h : SF C dp sc e d) : SE C dp sc e (mutD d) := by
  intro A env s X μ ρ σ u σ' Q E he hA hs hd hQ
  unfold mutD at hd
  split at hd
  · cases hd
  · rename_i us σ₁ h1
    cases hd
    refine h A env s X μ ρ σ us σ₁ Q E he hA hs h1 fun D vals h' tk X' μ' P m1 m2 m3 hl r => ?_
    refine hQ (.ref D) h' tk X' (μ' ++ [D]) (Post.addObj hs P m3 m1 m2 (.list hl r.1 fun i v x e e' => (r.2 i v x e e').stay (fun _ _ n e => ⟨e, n⟩))) ⟨D, rfl, ?_⟩
    rw [← P.st.sto.len]
    simp

theorem SF_comp1 {scope : Scope} {dels : List Nat} {ns : List Str} {tgt iter elt : Expr} {ifs : List Expr} {pos : Pos} {ds : DL} {T : Tg} {dt : DT} {de : DE} (ok : CompOk C sc scope dels ns)
    (hi : SI C dp sc tgt iter ds) (hT : SA C (relabelS scope sc) tgt ns T) (hfr : T.all (fun i => dels.contains i) = true) (ht : STs C dp (relabelS scope sc) ifs dt) (hx : SE C dp (relabelS scope sc) elt de) (hs : ∀ env x, foldedSetIterable iter env x = pure x) :
    SF C dp sc (.ListComp elt [⟨tgt, iter, ifs, 0⟩] scope pos) (compL dels ds T (emitL dt de)) := by
  intro A env s X μ ρ σ us σ' Q E he hA st hd hQ
  rw [eval_ListComp]
  refine comp_core (use := none) ok (tail := fun A acc cenv => emitP C A ifs elt acc cenv) hs hi hT hfr (fun A it acc cenv s Q E h => turn_one s Q E h) (fun A cenv D hA' hc => CTail_emit hA' hc ht hx) he hA st hd fun D cenv h' tk X' μ' nD nL DL own c a ok' => ?_
  obtain ⟨m, hm⟩ := c.st.envOk.locals
  refine ⟨m, hm, fun h'' sb => ?_⟩
  obtain ⟨P, vals, hl, r⟩ := comp_exit (X₃ := []) (fun b => decide (b ≠ cenv.locals)) st nD nL own c a ok' sb (fun b _ n => by simpa using n) (fun q => by simp at q)
  exact hQ D vals h'' tk _ μ' P (List.mem_filter.mpr ⟨ok'.inX, by simpa using DL⟩) ok'.notin nD hl r

theorem SF_comp2 {scope : Scope} {dels : List Nat} {ns₁ ns₂ : List Str} {t i t' i' elt : Expr} {ifs : List Expr} {pos : Pos} {ds ds' : DL} {T T' : Tg} {dt : DT} {de : DE} (ok : CompOk C sc scope dels (ns₁ ++ ns₂))
    (hi : SI C dp sc t i ds) (hT : SA C (relabelS scope sc) t ns₁ T) (hfr : T.all (fun i => dels.contains i) = true) (hi' : SI C dp (relabelS scope sc) t' i' ds') (hT' : SA C (relabelS scope sc) t' ns₂ T')
    (ht : STs C dp (relabelS scope sc) ifs dt) (hx : SE C dp (relabelS scope sc) elt de) (hs : ∀ env x, foldedSetIterable i env x = pure x) (hs' : ∀ env x, foldedSetIterable i' env x = pure x) :
    SF C dp sc (.ListComp elt [⟨t, i, [], 0⟩, ⟨t', i', ifs, 0⟩] scope pos) (compL dels ds T (nestL ds' (freshT T') T' (emitL dt de))) := by
  intro A env s X μ ρ σ us σ' Q E he hA st hd hQ
  have hT1 : SA C (relabelS scope sc) t (ns₁ ++ ns₂) T := by
    intro A env s X μ ρ σ v u ρ' Q E h1 h2 h3 h4 h5 h6
    refine hT A env s X μ ρ σ v u ρ' Q E h1 h2 h3 h4 h5 fun h' tk st k t y => h6 h' tk st (fun b o n e => k b o (fun q => n (q.elim .inl fun ⟨z, m, e⟩ => .inr ⟨z, List.mem_append.mpr (.inl m), e⟩)) e) t y
  rw [eval_ListComp]
  refine comp_core (use := none) ok (tail := fun A acc cenv => nestP C A (.ListComp elt [⟨t, i, [], 0⟩, ⟨t', i', ifs, 0⟩] scope pos) i' acc cenv) hs hi hT1 hfr (fun A it acc cenv s Q E h => turn_out (hs' cenv) s Q E h)
    (fun A cenv D hA' hc => CTail_nest hA' hc hi' (hc ▸ hT') (fun y m => List.mem_append.mpr (.inr m)) (CTail_emit hA' hc ht hx)) he hA st hd fun D cenv h' tk X' μ' nD nL DL own c a ok' => ?_
  obtain ⟨m, hm⟩ := c.st.envOk.locals
  refine ⟨m, hm, fun h'' sb => ?_⟩
  obtain ⟨P, vals, hl, r⟩ := comp_exit (X₃ := []) (fun b => decide (b ≠ cenv.locals)) st nD nL own c a ok' sb (fun b _ n => by simpa using n) (fun q => by simp at q)
  exact hQ D vals h'' tk _ μ' P (List.mem_filter.mpr ⟨ok'.inX, by simpa using DL⟩) ok'.notin nD hl r
end
end Mine
end

section
set_option autoImplicit false
set_option Elab.async false
set_option maxRecDepth 100000
namespace Mine

/-- statements: none goes on, some v returns v -/
abbrev DS := Rho → Sto → Option (Option V × Rho × Sto)

noncomputable def names (env : Env) : List Str := env.cells.map (·.1)
/-- the end of a piece of work that may bind names of its frame -/
abbrev FP (C : Cx) (env : Env) (ρ' : Rho) (h : Heap) (X μ : List Addr) (σ : Sto) (h' : Heap) (X' μ' : List Addr) (σ' : Sto) : Prop := CP C env ρ' env.locals (names env) [] h X μ σ h' X' μ' σ'

noncomputable def FlowIs (C : Cx) (h : Heap) (X μ : List Addr) (f : Flow) : Option V → Prop
  | none => f = .next
  | some u => ∃ v, f = .ret v ∧ RV C.prog C.w h X μ v u

noncomputable def SS (C : Cx) (dp : Nat) (sc : Scope) (b : List Stmt) (d : DS) : Prop :=
  ∀ (A : Around) (env : Env) (s : Shared) (X μ : List Addr) (ρ : Rho) (σ : Sto) (r : Option V) (ρ' : Rho) (σ' : Sto) (Q : Flow → Shared → Prop) (E : Value → Shared → Prop),
    env.scope = sc → ARoom A dp → St C env s.heap X μ ρ σ → d ρ σ = some (r, ρ', σ') →
    (∀ f h' tk X' μ', FP C env ρ' s.heap X μ σ h' X' μ' σ' → FlowIs C h' X' μ' f r → Q f { s with heap := h', toks := tk }) →
    wpAny (model C.prog C.w) A (execs b env) Q E s
noncomputable def S1 (C : Cx) (dp : Nat) (sc : Scope) (b : Stmt) (d : DS) : Prop :=
  ∀ (A : Around) (env : Env) (s : Shared) (X μ : List Addr) (ρ : Rho) (σ : Sto) (r : Option V) (ρ' : Rho) (σ' : Sto) (Q : Flow → Shared → Prop) (E : Value → Shared → Prop),
    env.scope = sc → ARoom A dp → St C env s.heap X μ ρ σ → d ρ σ = some (r, ρ', σ') →
    (∀ f h' tk X' μ', FP C env ρ' s.heap X μ σ h' X' μ' σ' → FlowIs C h' X' μ' f r → Q f { s with heap := h', toks := tk }) →
    wpAny (model C.prog C.w) A (exec b env) Q E s
/-- a target that takes a value -/
noncomputable def TA (C : Cx) (dp : Nat) (sc : Scope) (tgt : Expr) (t : V → Rho → Sto → Option (Rho × Sto)) : Prop :=
  ∀ (A : Around) (env : Env) (s : Shared) (X μ : List Addr) (ρ : Rho) (σ : Sto) (v : Value) (u : V) (ρ' : Rho) (σ' : Sto) (Q : Unit → Shared → Prop) (E : Value → Shared → Prop),
    env.scope = sc → ARoom A dp → St C env s.heap X μ ρ σ → RV C.prog C.w s.heap X μ v u → t u ρ σ = some (ρ', σ') →
    (∀ h' tk X' μ', FP C env ρ' s.heap X μ σ h' X' μ' σ' → Q () { s with heap := h', toks := tk }) →
    wpAny (model C.prog C.w) A (assign tgt env v) Q E s

noncomputable def nilS : DS := fun ρ σ => some (none, ρ, σ)
noncomputable def seqS (d ds : DS) : DS := fun ρ σ => match d ρ σ with
  | none => none
  | some (some v, ρ', σ') => some (some v, ρ', σ')
  | some (none, ρ', σ') => ds ρ' σ'
noncomputable def ifS (t : DT) (a b : DS) : DS := fun ρ σ => match t ρ σ with
  | none => none
  | some (true, σ₁) => a ρ σ₁
  | some (false, σ₁) => b ρ σ₁
noncomputable def retS (d : DE) : DS := fun ρ σ => match d ρ σ with
  | none => none
  | some (v, σ₁) => some (some v, ρ, σ₁)
noncomputable def noneS : DS := fun _ _ => none
noncomputable def asgS (d : DE) (t : V → Rho → Sto → Option (Rho × Sto)) : DS := fun ρ σ => match d ρ σ with
  | none => none
  | some (v, σ₁) => match t v ρ σ₁ with
    | none => none
    | some (ρ', σ₂) => some (none, ρ', σ₂)
noncomputable def nameT (i : Nat) : V → Rho → Sto → Option (Rho × Sto) := fun v ρ σ => some (put i v ρ, σ)
noncomputable def exprS (d : DE) : DS := fun ρ σ => match d ρ σ with
  | none => none
  | some (_, σ₁) => some (none, ρ, σ₁)
noncomputable def augS (i : Nat) (f : V → V → Sto → Option V) (d : DE) : DS := fun ρ σ => match lk ρ i with
  | none => none
  | some a => match d ρ σ with
    | none => none
    | some (b, σ₁) => match f a b σ₁ with
      | none => none
      | some c => some (none, put i c ρ, σ₁)
noncomputable def forL (T : Tg) (d : DS) : List V → Rho → Sto → Option (Option V × Rho × Sto)
  | [], ρ, σ => some (none, ρ, σ)
  | x :: xs, ρ, σ => match bindT T x ρ with
    | none => none
    | some ρ₁ => match d ρ₁ σ with
      | none => none
      | some (some v, ρ₂, σ₂) => some (some v, ρ₂, σ₂)
      | some (none, ρ₂, σ₂) => forL T d xs ρ₂ σ₂
noncomputable def forS (ds : DL) (T : Tg) (d : DS) : DS := fun ρ σ => match ds ρ σ with
  | none => none
  | some (xs, σ₁) => forL T d xs ρ σ₁
noncomputable def whileL (t : DT) (d : DS) : Nat → Rho → Sto → Option (Option V × Rho × Sto)
  | 0, _, _ => none
  | n + 1, ρ, σ => match t ρ σ with
    | none => none
    | some (false, σ₁) => some (none, ρ, σ₁)
    | some (true, σ₁) => match d ρ σ₁ with
      | none => none
      | some (some v, ρ₂, σ₂) => some (some v, ρ₂, σ₂)
      | some (none, ρ₂, σ₂) => whileL t d n ρ₂ σ₂

section
variable {C : Cx} {dp : Nat} {sc : Scope}

theorem own_mono {env : Env} {ns : List Str} {a : Addr} (o : Own env ns a) : Own env (names env) a := by
  rcases o with o | ⟨x, m, e⟩
  · exact .inl o
  · exact .inr ⟨x, List.mem_map.mpr ⟨_, mem_of_lookup e, rfl⟩, e⟩

theorem FP.of_post {env : Env} {ρ : Rho} {h h' : Heap} {X X' μ μ' : List Addr} {σ σ' : Sto} (x : Post C env ρ h X μ σ h' X' μ' σ') : FP C env ρ h X μ σ h' X' μ' σ' := CP.of_post x
theorem FP.trans' {env : Env} {ρ ρ' : Rho} {h h' h'' : Heap} {X X' X'' μ μ' μ'' : List Addr} {σ σ' σ'' : Sto} (x : FP C env ρ h X μ σ h' X' μ' σ') (y : FP C env ρ' h' X' μ' σ' h'' X'' μ'' σ'') :
    FP C env ρ' h X μ σ h'' X'' μ'' σ'' := CP.trans x y fun _ m => nomatch m
theorem FP.of_store {env : Env} {ρ' : Rho} {h h' : Heap} {X μ : List Addr} {σ : Sto} {ns : List Str} (st : St C env h' X μ ρ' σ) (k : ∀ b o, ¬ Own env ns b → h.get? b = some o → h'.get? b = some o) (t : ∀ b, (h.get? b).isSome → (h'.get? b).isSome) :
    FP C env ρ' h X μ σ h' X μ σ :=
  ⟨st, fun b o _ n _ _ e => k b o (fun q => n (own_mono q)) e, fun b _ e => t b e, fun _ m => .inl m, ⟨[], by simp, fun _ m => nomatch m⟩, fun _ l => .inl l, fun _ m _ _ _ => m⟩
theorem FP.stay {env : Env} {ρ ρ' : Rho} {h h' : Heap} {X X' μ μ' : List Addr} {σ σ' : Sto} (s : St C env h X μ ρ σ) (x : FP C env ρ' h X μ σ h' X' μ' σ') : Stay h X h' X' := CP.stay s x s.envOk.locX
theorem FP.rv {env : Env} {ρ ρ' : Rho} {h h' : Heap} {X X' μ μ' : List Addr} {σ σ' : Sto} {v : Value} {u : V} (s : St C env h X μ ρ σ) (x : FP C env ρ' h X μ σ h' X' μ' σ') (r : RV C.prog C.w h X μ v u) : RV C.prog C.w h' X' μ' v u := by
  obtain ⟨ν, e, _⟩ := x.ext
  rw [e]
  exact r.stay (x.stay s)

theorem SS_nil : SS C dp sc [] nilS := by
  intro A env s X μ ρ σ r ρ' σ' Q E he hA st hd hQ
  cases hd
  exact wpAny_execs_nil (hQ .next s.heap s.toks X μ (CP.refl st) rfl)
theorem SS_cons {b : Stmt} {bs : List Stmt} {d ds : DS} (h : S1 C dp sc b d) (hs : SS C dp sc bs ds) : SS C dp sc (b :: bs) (seqS d ds) := by
  intro A env s X μ ρ σ r ρ' σ' Q E he hA st hd hQ
  unfold seqS at hd
  refine wpAny_execs_cons ?_
  split at hd
  · cases hd
  · rename_i v ρ₁ σ₁ h1
    cases hd
    refine h A env s X μ ρ σ _ _ _ _ E he hA st h1 fun f h' tk X' μ' P F => ?_
    obtain ⟨w, rfl, r⟩ := F
    exact hQ _ h' tk X' μ' P ⟨w, rfl, r⟩
  · rename_i ρ₁ σ₁ h1
    refine h A env s X μ ρ σ _ _ _ _ E he hA st h1 fun f h' tk X' μ' P F => ?_
    cases F
    exact hs A env { s with heap := h', toks := tk } X' μ' ρ₁ σ₁ r ρ' σ' Q E he hA P.st hd fun f h₂ tk₂ X₂ μ₂ P₂ F₂ => hQ f h₂ tk₂ X₂ μ₂ (P.trans' P₂) F₂

theorem S1_if {t : Expr} {a b : List Stmt} {dt : DT} {da db : DS} {pos : Pos} (ht : ST C dp sc t dt) (ha : SS C dp sc a da) (hb : SS C dp sc b db) : S1 C dp sc (.If t a b pos) (ifS dt da db) := by
  intro A env s X μ ρ σ r ρ' σ' Q E he hA st hd hQ
  unfold ifS at hd
  refine wpAny_If ?_
  split at hd
  · cases hd
  · rename_i σ₁ h1
    refine ht A env s X μ ρ σ _ σ₁ _ E he hA st h1 fun h' tk X' μ' P => ?_
    rw [if_pos rfl]
    exact ha A env { s with heap := h', toks := tk } X' μ' ρ σ₁ _ _ _ _ E he hA P.st hd fun f h₂ tk₂ X₂ μ₂ P₂ F => hQ f h₂ tk₂ X₂ μ₂ ((FP.of_post P).trans' P₂) F
  · rename_i σ₁ h1
    refine ht A env s X μ ρ σ _ σ₁ _ E he hA st h1 fun h' tk X' μ' P => ?_
    rw [if_neg (by simp)]
    exact hb A env { s with heap := h', toks := tk } X' μ' ρ σ₁ _ _ _ _ E he hA P.st hd fun f h₂ tk₂ X₂ μ₂ P₂ F => hQ f h₂ tk₂ X₂ μ₂ ((FP.of_post P).trans' P₂) F

theorem S1_ret {e : Expr} {d : DE} {pos : Pos} (h : SE C dp sc e d) : S1 C dp sc (.Return (some e) pos) (retS d) := by
  intro A env s X μ ρ σ r ρ' σ' Q E he hA st hd hQ
  unfold retS at hd
  split at hd
  · cases hd
  · rename_i v σ₁ h1
    cases hd
    exact wpAny_Return_some (h A env s X μ ρ σ _ _ _ E he hA st h1 fun w h' tk X' μ' P R => hQ _ h' tk X' μ' (FP.of_post P) ⟨w, rfl, R⟩)

theorem S1_never {b : Stmt} : S1 C dp sc b noneS := by
  intro A env s X μ ρ σ r ρ' σ' Q E he hA st hd
  cases hd

theorem S1_expr {e : Expr} {d : DE} {pos : Pos} (h : SE C dp sc e d) (hk : (sc.kind == .module) = false) (hs : ∀ env, swapsWith e none pos.line env = pure false) : S1 C dp sc (.Expr e pos) (exprS d) := by
  intro A env s X μ ρ σ r ρ' σ' Q E he hA st hd hQ
  unfold exprS at hd
  split at hd
  · cases hd
  · rename_i v σ₁ h1
    cases hd
    refine wpAny_Expr_any (h A env s X μ ρ σ _ _ _ E he hA st h1 fun w h' tk X' μ' P R => hQ _ h' tk X' μ' (FP.of_post P) rfl) ?_ (hs env)
    unfold interactive
    rw [he, hk]; rfl

theorem TA_name (hnd : C.tab.Nodup) {x : Str} {p : Pos} {i : Nat} (hi : C.tab[i]? = some x) (hl : stIn sc x = true) : TA C dp sc (.Name x p) (nameT i) := by
  intro A env s X μ ρ σ v u ρ' σ' Q E he hA st r hd hQ
  cases hd
  exact wpAny_assign_Name (wp_store st hnd (st_of he hl) hi r fun h' tk st' k t y => hQ h' tk X μ (FP.of_store st' k t))

theorem S1_asg {tgt value : Expr} {pos : Pos} {d : DE} {t : V → Rho → Sto → Option (Rho × Sto)} (hv : SE C dp sc value d) (ht : TA C dp sc tgt t)
    (hs : ∀ env, env.scope = sc → swapsWithSole [tgt] value pos.line env = pure false) (hw : ∀ env, env.scope = sc → swappedStores [tgt] value env = pure none) (ha : ∀ env, (assignEach [tgt] env).map (·.2) = [assign tgt env]) :
    S1 C dp sc (.Assign [tgt] value pos) (asgS d t) := by
  intro A env s X μ ρ σ r ρ' σ' Q E he hA st hd hQ
  unfold asgS at hd
  split at hd
  · cases hd
  · rename_i v σ₁ h1
    split at hd
    · cases hd
    · rename_i ρ₂ σ₂ h2
      cases hd
      refine wpAny_Assign_stores (hv A env s X μ ρ σ _ _ _ E he hA st h1 fun w h' tk X' μ' P R => ?_) (hs env he) (hw env he)
      rw [ha]
      show wpAny _ A (assign tgt env w) _ E _
      exact ht A env { s with heap := h', toks := tk } X' μ' ρ σ₁ w v _ _ _ E he hA P.st R h2 fun h₂ tk₂ X₂ μ₂ P₂ => hQ _ h₂ tk₂ X₂ μ₂ ((FP.of_post P).trans' P₂) rfl

/-- one frame's own operation of two values, from the names' one -/
theorem S1_aug (hnd : C.tab.Nodup) {x : Str} {p : Pos} {i : Nat} {op : Operator} {e : Expr} {pos : Pos} {f : V → V → Sto → Option V} {d : DE} (hi : C.tab[i]? = some x) (hl : stIn sc x = true)
    (ho : Op2 C (inplaceOp op) f) (h : SE C dp sc e d) : S1 C dp sc (.AugAssign (.Name x p) op e pos) (augS i f d) := by
  intro A env s X μ ρ σ r ρ' σ' Q E he hA st hd hQ
  unfold augS at hd
  split at hd
  · cases hd
  · rename_i a ha
    split at hd
    · cases hd
    · rename_i b σ₁ h1
      split at hd
      · cases hd
      · rename_i c h2
        cases hd
        have hloc := st_of he hl
        obtain ⟨v', hv', hr⟩ := st.vars i x a hi ha (hloc.elim .inl fun q => .inr (.inl q))
        have rest : wpAny (model C.prog C.w) A (eval e env) (fun v s₂ => wpAny (model C.prog C.w) A (inplaceOp op v' v) (fun r s₃ => wpAny (model C.prog C.w) A (storeName env x r) (fun _ => Q .next) E s₃) E s₂) E s := by
          refine h A env s X μ ρ σ _ _ _ E he hA st h1 fun w h' tk X' μ' P R => ?_
          refine ho A { s with heap := h', toks := tk } X' μ' _ v' w a b c _ E (P.st.hp hA) (P.rv st hr) R h2 fun z h₂ tk₂ k R₂ => ?_
          have P₂ := P.trans (Post.of_keeps P.st k)
          exact wp_store P₂.st hnd hloc hi R₂ fun h₃ tk₃ st₃ k₃ t₃ y => hQ _ h₃ tk₃ X' μ' ((FP.of_post P₂).trans' (FP.of_store st₃ k₃ t₃)) rfl
        refine wpAny_AugAssign_Name ?_
        rcases hv' with ⟨hk, m, hm, hx⟩ | ⟨hk, c', hcc, hx⟩
        · exact wpAny_loadName_local st.envOk.kind hk hm hx rest
        · rcases hk with hk | hk
          · exact wpAny_loadName_cell st.envOk.kind hk hcc hx rest
          · rcases hloc with q | q <;> · rw [hk] at q; cases q

theorem S1_for {tgt iter : Expr} {b : List Stmt} {pos : Pos} {ns : List Str} {T : Tg} {ds : DL} {d : DS} (hi : SI C dp sc tgt iter ds) (hT : SA C sc tgt ns T) (hb : SS C dp sc b d) (hs : ∀ env x, foldedSetIterable iter env x = pure x) :
    S1 C dp sc (.For tgt iter b [] pos) (forS ds T d) := by
  intro A env s X μ ρ σ r ρ' σ' Q E he hA st hd hQ
  unfold forS at hd
  split at hd
  · cases hd
  · rename_i xs σ₁ h1
    refine wpAny_For (hi A env s X μ ρ σ xs σ₁ _ E he hA st h1 fun I wr S h₁ tk₁ X₁ μ₁ P₁ hw hI hS => ?_) (hs env)
    have hwr : ∀ b ∈ wr, s.heap.get? b = none := fun b m => (hw b m).2.1
    have nw : ∀ b, (s.heap.get? b).isSome → b ∉ wr := fun b e m => by rw [hwr b m] at e; cases e
    have nL : env.locals ∉ wr := nw _ (st.there _ st.envOk.locX)
    have nC : ∀ x c, env.cells.lookup x = some c → c ∉ wr := fun x c e => nw c (st.there c (st.envOk.cell x c e).1)
    have nO : ∀ b ∈ wr, ∀ ms, ¬ Own env ms b := fun b m ms q => q.elim (fun e => nL (e ▸ m)) fun ⟨y, _, e⟩ => nC y b e m
    have nl : ∀ {μ : List Addr} {σ : Sto} b, b ∉ μ → ¬ Live μ σ b := fun b n ⟨m, o, e, _⟩ => n (List.mem_of_getElem? e)
    refine codeAny_forLoop_any (fun n s' => ∃ xs h tk X' μ' ρ₂ σ₂, n = xs.length ∧ s' = { s with heap := h, toks := tk } ∧ FP C env ρ₂ s.heap X μ σ h X' μ' σ₂ ∧ S X' h xs ∧ (∀ b ∈ wr, b ∈ X' ∧ b ∉ μ') ∧ forL T d xs ρ₂ σ₂ = some (r, ρ', σ')) ?_ xs.length
      ⟨xs, h₁, tk₁, X₁, μ₁, ρ, σ₁, rfl, rfl, FP.of_post P₁, hS, fun b m => ⟨(hw b m).1, (hw b m).2.2⟩, hd⟩
    rintro n s' ⟨xs, h, tk, X', μ', ρ₂, σ₂, rfl, rfl, P, hS, hw, hd⟩
    cases xs with
    | nil =>
      cases hd
      refine hI.done X' _ _ _ hS fun h' tk' hk => ?_
      refine wpAny_execs_nil ?_
      have y : CP C env ρ' env.locals (names env) wr h X' μ' σ' h' (X'.filter fun b => decide (b ∉ wr)) μ' σ' := by
        refine ⟨P.st.change (wr := wr) hk (fun b m => .inl (hw b m).1) nL nC (fun b m q => (hw b q).2 m) (fun b m => .inl (List.mem_filter.mp m).1) (fun b m n => List.mem_filter.mpr ⟨m, by simpa using n⟩) (fun b m => ?_), fun b o _ _ _ n e => hk b o n e, fun b n e => ?_, fun b m => .inl (List.mem_filter.mp m).1,
          ⟨[], by simp, fun _ m => nomatch m⟩, fun _ l => .inl l, fun b m _ _ n => List.mem_filter.mpr ⟨m, by simpa using n⟩⟩
        · obtain ⟨m1, m2⟩ := List.mem_filter.mp m
          obtain ⟨o, e⟩ := Option.isSome_iff_exists.mp (P.st.there b m1)
          rw [hk b o (by simpa using m2) e]; rfl
        · obtain ⟨o, e⟩ := Option.isSome_iff_exists.mp e
          rw [hk b o n e]; rfl
      exact hQ .next h' tk' _ μ' (CP.trans P y hwr) rfl
    | cons x xs =>
      simp only [forL] at hd
      split at hd
      · cases hd
      · rename_i ρ₃ hb₃
        refine hI.item X' _ x xs _ _ hS (fun b m => (hw b m).1) P.st.there fun v h₁ tk₁ k1 t1 r1 go => ?_
        refine go _ fun h₂ k2 t2 r2 hS₂ => ?_
        have st₂ : St C env h₂ X' μ' ρ₂ σ₂ := P.st.change (wr := wr) k2 (fun b m => .inl (hw b m).1) nL nC (fun b m q => (hw b q).2 m) (fun b m => .inl m) (fun b m _ => m) (fun b m => t2 b (P.st.there b m))
        have P₂ : FP C env ρ₂ s.heap X μ σ h₂ X' μ' σ₂ := CP.trans P (W := wr) ⟨st₂, fun b o _ _ _ n e => k2 b o n e, fun b _ e => t2 b e, fun b m => .inl m, ⟨[], by simp, fun _ m => nomatch m⟩, fun _ l => .inl l, fun _ m _ _ _ => m⟩ hwr
        refine hT A env { s with heap := h₂, toks := tk₁ } X' μ' ρ₂ σ₂ v x ρ₃ _ _ he hA.1 st₂ r2.toRV hb₃ fun h₃ tk₃ st₃ k3 t3 stay3 => ?_
        have hS₃ : S X' h₃ xs := hI.frame _ _ _ _ _ hS₂ stay3 fun b m o e => k3 b o (nO b m _) e
        have P₃ : FP C env ρ₃ s.heap X μ σ h₃ X' μ' σ₂ := P₂.trans' (FP.of_store st₃ k3 t3)
        split at hd
        · cases hd
        · rename_i u ρ₄ σ₄ hd₄
          cases hd
          refine hb A env { s with heap := h₃, toks := tk₃ } X' μ' ρ₃ σ₂ _ _ _ _ _ he hA st₃ hd₄ fun f h₄ tk₄ X₄ μ₄ P₄ F => ?_
          obtain ⟨z, rfl, R⟩ := F
          exact hQ _ h₄ tk₄ X₄ μ₄ (P₃.trans' P₄) ⟨z, rfl, R⟩
        · rename_i ρ₄ σ₄ hd₄
          refine hb A env { s with heap := h₃, toks := tk₃ } X' μ' ρ₃ σ₂ _ _ _ _ _ he hA st₃ hd₄ fun f h₄ tk₄ X₄ μ₄ P₄ F => ?_
          cases F
          have st4 := P₄.stay st₃
          have hS₄ : S X₄ h₄ xs := hI.frame _ _ _ _ _ hS₃ st4 fun b m o e => P₄.keep b o (nl b (hw b m).2) (nO b m _) (fun q => nL (q ▸ m)) (by simp) e
          have hw₄ : ∀ b ∈ wr, b ∈ X₄ ∧ b ∉ μ₄ := fun b m => by
            have hb3 : (h₃.get? b).isSome := t3 b (t2 b (P.st.there b (hw b m).1))
            refine ⟨P₄.sub b (hw b m).1 hb3 (nl b (hw b m).2) (by simp), fun m' => ?_⟩
            obtain ⟨ν, e, f⟩ := P₄.ext
            rw [e] at m'
            rcases List.mem_append.mp m' with m' | m'
            · exact (hw b m).2 m'
            · rw [f b m'] at hb3; cases hb3
          exact ⟨xs.length, by simp, xs, h₄, tk₄, X₄, μ₄, ρ₄, σ₄, rfl, rfl, P₃.trans' P₄, hS₄, hw₄, hd⟩

theorem S1_while {t : Expr} {b : List Stmt} {pos : Pos} {dt : DT} {d : DS} (n : Nat) (ht : ST C dp sc t dt) (hb : SS C dp sc b d) : S1 C dp sc (.While t b [] pos) (whileL dt d n) := by
  intro A env s X μ ρ σ r ρ' σ' Q E he hA st hd hQ
  refine wpAny_While (codeAny_whileLoop (fun n s' => ∃ h tk X' μ' ρ₂ σ₂, s' = { s with heap := h, toks := tk } ∧ FP C env ρ₂ s.heap X μ σ h X' μ' σ₂ ∧ whileL dt d n ρ₂ σ₂ = some (r, ρ', σ')) ?_ n ⟨s.heap, s.toks, X, μ, ρ, σ, rfl, CP.refl st, hd⟩)
  rintro n s' ⟨h, tk, X', μ', ρ₂, σ₂, rfl, P, hd⟩
  cases n with
  | zero => cases hd
  | succ n =>
    simp only [whileL] at hd
    split at hd
    · cases hd
    · rename_i σ₃ h1
      cases hd
      refine ht A env _ X' μ' _ σ₂ _ _ _ _ he hA P.st h1 fun h₂ tk₂ X₂ μ₂ P₂ => ?_
      rw [if_neg (by simp)]
      exact wpAny_execs_nil (hQ .next h₂ tk₂ X₂ μ₂ (P.trans' (FP.of_post P₂)) rfl)
    · rename_i σ₃ h1
      refine ht A env _ X' μ' ρ₂ σ₂ _ _ _ _ he hA P.st h1 fun h₂ tk₂ X₂ μ₂ P₂ => ?_
      rw [if_pos rfl]
      split at hd
      · cases hd
      · rename_i u ρ₄ σ₄ hd₄
        cases hd
        refine hb A env { s with heap := h₂, toks := tk₂ } X₂ μ₂ ρ₂ σ₃ _ _ _ _ _ he hA P₂.st hd₄ fun f h₄ tk₄ X₄ μ₄ P₄ F => ?_
        obtain ⟨z, rfl, R⟩ := F
        exact hQ _ h₄ tk₄ X₄ μ₄ ((P.trans' (FP.of_post P₂)).trans' P₄) ⟨z, rfl, R⟩
      · rename_i ρ₄ σ₄ hd₄
        refine hb A env { s with heap := h₂, toks := tk₂ } X₂ μ₂ ρ₂ σ₃ _ _ _ _ _ he hA P₂.st hd₄ fun f h₄ tk₄ X₄ μ₄ P₄ F => ?_
        cases F
        exact ⟨n, Nat.lt_succ_self n, h₄, tk₄, X₄, μ₄, ρ₄, σ₄, rfl, (P.trans' (FP.of_post P₂)).trans' P₄, hd⟩
end
end Mine
end

section
set_option autoImplicit false
set_option Elab.async false
set_option maxRecDepth 100000
namespace Mine

section
variable {prog : Program} {w : World} {A : Around} {E : Value → Shared → Prop} {s : Shared}
/-- a store into a list of the plain kind leaves one of the plain kind -/
theorem wp_setItem_plain {l : Addr} {vs : List Value} {i : Int} {j : Nat} {t : Tok} {v : Value} {Q : Unit → Shared → Prop} (hl : s.heap.PlainList l vs.toArray) (hij : i = j) (hj : j < vs.length) (hfit : i < 2 ^ 63)
    (hQ : ∀ h', h'.PlainList l (vs.set j v).toArray → Heap.SameBut l s.heap h' → Q () { s with heap := h' }) : wpAny (model prog w) A (setItem (.ref l) (.int i t) v) Q E s := by
  obtain ⟨n, ho⟩ := id hl
  have typ : s.TypeIs (.ref l) "list" := hl.isList.typeIs
  have hf : Builtin.List.listFitsIndex i = true := fitsIndex_of (by omega) hfit
  clear hfit
  unfold setItem
  try with_reducible refine wpAny_holding ?_
  refine wpAny_bind (wpAny_sequenceKey typ (by decide) ?_)
  refine wpAny_bind (wpAny_callSpecial?_slot (name := Str.ofString "__setitem__") typ F.slot_list_setitem (wpAny_call_entry F.slot_list_setitem typ F.entry_list_setitem ?_ (F.args_list_setitem_3 _ _ _)))
  show wpAny _ _ (Builtin.List.listSubscript? (.int i t) >>= _) _ _ s
  refine wpAny_bind (wpAny_listSubscript_int hf ?_)
  clear hf
  subst hij
  show wpAny _ _ ((seqItemAt l j >>= fun r => pure (r.map (j, ·))) >>= _) _ _ s
  refine wpAny_bind (wpAny_bind (wpAny_seqItemAt ho rfl (wpAny_pure ?_)))
  rw [show vs.toArray[j]? = some vs[j] by simp [hj]]
  show wpAny _ _ (setSeqItemAt l j v >>= _) _ _ s
  have fin : Q () { s with heap := s.heap.update l (Obj.mapSeq (·.setIfInBounds j v)) } := by
    refine hQ _ ⟨n, ?_⟩ (Heap.SameBut.update ..)
    rw [Heap.get?_update_self _ ho rfl]
    simp [Obj.mapSeq]
  refine wpAny_bind (wpAny_setSeqItemAt ho rfl ?_)
  first
    | exact wpAny_bind (wpAny_pure (wpAny_pure ⟨.none, rfl, wpAny_pure fin⟩))
    | exact wpAny_pure ⟨.none, rfl, wpAny_pure fin⟩
end

noncomputable def setL : List V → Nat → V → List V
  | [], _, _ => []
  | _ :: r, 0, v => v :: r
  | x :: r, n + 1, v => x :: setL r n v
theorem setL_eq : ∀ (xs : List V) (n : Nat) (v : V), setL xs n v = xs.set n v
  | [], n, v => by simp [setL]
  | x :: r, 0, v => by simp [setL]
  | x :: r, n + 1, v => by simp [setL, setL_eq r n v]
noncomputable def dmap : List (List Int × V) → List Int → V → List (List Int × V)
  | [], _, _ => []
  | (k, u) :: r, key, v => match keyEq k key with
    | true => (k, v) :: dmap r key v
    | false => (k, u) :: dmap r key v
noncomputable def dput (es : List (List Int × V)) (k : List Int) (v : V) : List (List Int × V) := match dget es k with
  | some _ => dmap es k v
  | none => es ++ [(k, v)]
noncomputable def setV : V → V → V → Sto → Option Sto
  | .loc n, .int (.ofNat j), v, σ => match nthS σ n with
    | some (.list xs) => match Nat.ble (j + 1) xs.length with
      | true => match Nat.ble j bigN with
        | true => some (setS σ n (.list (setL xs j v)))
        | false => none
      | false => none
    | _ => none
  | .loc n, .tup ks, v, σ => match nthS σ n with
    | some (.dict es) => match keyOf ks with
      | some k => match v.isLoc with
        | true => none
        | false => match Nat.ble es.length 100000 with
          | true => some (setS σ n (.dict (dput es k v)))
          | false => none
      | none => none
    | _ => none
  | _, _, _, _ => none

section
variable {C : Cx} {h h' : Heap} {X μ : List Addr}
theorem dput_keys : ∀ {ys : List (List Int × Addr × Value)} {es : List (List Int × V)} {k : List Int} {a : Addr} {v : Value} {u : V}, ys.map (·.1) = es.map (·.1) →
    (storedH ys k a v).map (·.1) = (dput es k u).map (·.1) := by
  intro ys es k a v u hm
  have dm : ∀ (es : List (List Int × V)), (dmap es k u).map (·.1) = es.map (·.1) := fun es => by
    induction es with
    | nil => rfl
    | cons e es ih =>
      obtain ⟨k', u'⟩ := e
      simp only [dmap]
      split <;> simp [ih]
  unfold dput
  cases hg : dget es k with
  | some r =>
    obtain ⟨i, y, e, _, _, _, h4⟩ := dget_at hm hg
    rw [storedH_old h4, keys_map_putAt, hm]
    exact (dm es).symm
  | none =>
    rw [storedH_new (dget_none hm hg)]
    simp [hm]
theorem dmap_at {es : List (List Int × V)} {k : List Int} {u : V} : ∀ {i : Nat} {e : List Int × V}, (dmap es k u)[i]? = some e → ∃ e', es[i]? = some e' ∧ e = if e'.1 = k then (e'.1, u) else e' := by
  induction es with
  | nil => intro i e h; simp [dmap] at h
  | cons p r ih =>
    intro i e h
    obtain ⟨k', u'⟩ := p
    simp only [dmap, keyEq_iff] at h
    by_cases hk : k' = k
    · subst hk
      simp only [decide_true] at h
      cases i with
      | zero => simp only [List.getElem?_cons_zero, Option.some.injEq] at h; exact ⟨_, rfl, by simp [← h]⟩
      | succ i => exact ih (by simpa using h)
    · simp only [hk, decide_false] at h
      cases i with
      | zero => simp only [List.getElem?_cons_zero, Option.some.injEq] at h; exact ⟨_, rfl, by simp [← h, hk]⟩
      | succ i => exact ih (by simpa using h)

theorem wp_setItem {A : Around} {dp : Nat} {env : Env} {s : Shared} {ρ : Rho} {σ σ' : Sto} {o i v : Value} {uo ui uv : V} {Q : Unit → Shared → Prop} {E : Value → Shared → Prop} (hA : ARoom A dp) (st : St C env s.heap X μ ρ σ)
    (ro : RV C.prog C.w s.heap X μ o uo) (ri : RV C.prog C.w s.heap X μ i ui) (rv : RV C.prog C.w s.heap X μ v uv) (hd : setV uo ui uv σ = some σ')
    (hQ : ∀ h' tk, Post C env ρ s.heap X μ σ h' X μ σ' → Q () { s with heap := h', toks := tk }) : wpAny (model C.prog C.w) A (setItem o i v) Q E s := by
  unfold setV at hd
  split at hd
  · rename_i n j
    split at hd
    · rename_i xs hn
      split at hd
      · rename_i hj
        split at hd
        · rename_i hb
          cases hd
          obtain ⟨a, rfl, hμ⟩ := ro
          obtain ⟨t, rfl⟩ := ri.int
          have hσ := nthS_eq _ _ _ hn
          have hX := st.sto.inX a ⟨n, _, hμ, hσ⟩
          cases st.sto.obj n a _ hμ hσ with
          | @list vs _ hl hlen hi =>
            have hj' := Nat.le_of_ble_eq_true hj
            have hb' := Nat.le_of_ble_eq_true hb
            unfold bigN at hb'
            refine wp_setItem_plain (i := Int.ofNat j) (j := j) hl rfl (by omega) (by show (j : Int) < _; omega) fun h' hl' hs' => hQ h' s.toks (Post.mut st hμ hσ hs' (by obtain ⟨n, e⟩ := hl'; rw [e]; rfl) ?_)
            have stay : Stay s.heap X h' X := fun b q nb e => ⟨(hs'.2 b (fun e' => nb (e' ▸ hX))).trans e, nb⟩
            refine .list hl' (by rw [setL_eq, List.length_set, List.length_set, hlen]) fun m v' x e1 e2 => ?_
            rw [setL_eq] at e2
            by_cases c : j = m
            · subst c
              rw [List.getElem?_set_self (by omega)] at e1 e2
              cases e1; cases e2
              exact rv.stay0 stay
            · rw [List.getElem?_set_ne c] at e1 e2
              exact (hi m v' x e1 e2).stay0 stay
        · cases hd
      · cases hd
    · cases hd
  · rename_i n ks
    split at hd
    · rename_i es hn
      split at hd
      · rename_i k hk
        split at hd
        · cases hd
        · rename_i hloc
          split at hd
          · rename_i hle
            cases hd
            obtain ⟨a, rfl, hμ⟩ := ro
            obtain ⟨ka, kvs, rfl, htup, hka, hkr⟩ := ri.tup
            have hσ := nthS_eq _ _ _ hn
            have hX := st.sto.inX a ⟨n, _, hμ, hσ⟩
            cases st.sto.obj n a _ hμ hσ with
            | @dict ys _ hd hs hy hkeys hi =>
              have hlen : ys.length = es.length := by have := congrArg List.length hkeys; simpa using this
              refine wpAny_setItem_heap (knd := TK C.prog C.w) (show A.in1.units < cLine by have := hA.2.2; unfold Around.in1; dsimp only; omega) (isKey htup hk hkr) hd (fun h' hd' hs' => ?_) (by rw [hlen]; exact le_of_ble hle)
              have stay : Stay s.heap X h' X := fun b q nb e => ⟨(hs'.2 b (fun e' => nb (e' ▸ hX))).trans e, nb⟩
              refine hQ h' _ (Post.mut st hμ hσ hs' (by obtain ⟨o, _, _, ho, _⟩ := hd'; rw [ho]; rfl) (.dict hd' hs ?_ (dput_keys hkeys) ?_))
              · intro y m
                unfold storedH at m
                split at m
                · obtain ⟨z, mz, rfl⟩ := List.mem_map.mp m
                  unfold putAt
                  split
                  · exact hy z mz
                  · exact hy z mz
                · rcases List.mem_append.mp m with m | m
                  · exact hy y m
                  · rw [List.mem_singleton.mp m]; exact hka
              · intro m y e e1 e2
                unfold dput at e2
                have rvv : RF C.prog C.w h' X v uv := (rv.toRF hloc).stay stay
                cases hg : dget es k with
                | some r =>
                  rw [hg] at e2
                  obtain ⟨i₀, y₀, e₀, g1, g2, g3, g4⟩ := dget_at hkeys hg
                  rw [storedH_old g4, List.getElem?_map] at e1
                  obtain ⟨e', he', rfl⟩ := dmap_at e2
                  cases hy' : ys[m]? with
                  | none => rw [hy'] at e1; cases e1
                  | some y' =>
                    rw [hy'] at e1
                    cases e1
                    have keq : y'.1 = e'.1 := by
                      have := congrArg (·[m]?) hkeys
                      simpa [hy', he'] using this
                    unfold putAt
                    by_cases c : e'.1 = k
                    · rw [if_pos (keq.trans c), if_pos c]; exact rvv
                    · rw [if_neg (fun q => c (keq.symm.trans q)), if_neg c]
                      exact (hi m y' e' hy' he').stay stay
                | none =>
                  rw [hg] at e2
                  rw [storedH_new (dget_none hkeys hg)] at e1
                  by_cases c : m < ys.length
                  · rw [List.getElem?_append_left c] at e1
                    rw [List.getElem?_append_left (hlen ▸ c)] at e2
                    exact (hi m y e e1 e2).stay stay
                  · rw [List.getElem?_append_right (Nat.not_lt.mp c)] at e1
                    rw [List.getElem?_append_right (hlen ▸ Nat.not_lt.mp c), ← hlen] at e2
                    cases k' : m - ys.length with
                    | zero =>
                      rw [k'] at e1 e2
                      simp only [List.getElem?_cons_zero, Option.some.injEq] at e1 e2
                      subst e1; subst e2
                      exact rvv
                    | succ j => rw [k'] at e1; simp at e1
          · cases hd
      · cases hd
    · cases hd
  · cases hd
end
end Mine
end

section
set_option autoImplicit false
set_option Elab.async false
set_option maxRecDepth 100000
namespace Mine

noncomputable def subT (d di : DE) : V → Rho → Sto → Option (Rho × Sto) := fun v ρ σ => match d ρ σ with
  | none => none
  | some (o, σ₁) => match di ρ σ₁ with
    | none => none
    | some (i, σ₂) => match setV o i v σ₂ with
      | none => none
      | some σ₃ => some (ρ, σ₃)
noncomputable def runT : List (V → Rho → Sto → Option (Rho × Sto)) → List V → Rho → Sto → Option (Rho × Sto)
  | [], [], ρ, σ => some (ρ, σ)
  | t :: ts, v :: vs, ρ, σ => match t v ρ σ with
    | none => none
    | some (ρ₁, σ₁) => runT ts vs ρ₁ σ₁
  | _, _, _, _ => none
noncomputable def revOnto : List V → List V → List V
  | [], r => r
  | x :: xs, r => revOnto xs (x :: r)
theorem revOnto_eq : ∀ (xs r : List V), revOnto xs r = xs.reverse ++ r
  | [], r => rfl
  | x :: xs, r => by simp [revOnto, revOnto_eq xs]
/-- a tuple of values goes to a tuple of targets -/
noncomputable def tupS (ds : DL) (ts : List (V → Rho → Sto → Option (Rho × Sto))) : DS := fun ρ σ => match ds ρ σ with
  | none => none
  | some (vs, σ₁) => match Nat.ble vs.length 100000 with
    | true => match runT ts vs ρ σ₁ with
      | none => none
      | some (ρ₂, σ₂) => some (none, ρ₂, σ₂)
    | false => none
/-- the same with the last store first -/
noncomputable def swapS (ds : DL) (is : List Nat) : DS := fun ρ σ => match ds ρ σ with
  | none => none
  | some (vs, σ₁) => match Nat.ble vs.length 100000 with
    | true => match putAll is (revOnto vs []) ρ with
      | none => none
      | some ρ₂ => some (none, ρ₂, σ₁)
    | false => none
noncomputable def augSubS (d di : DE) (f : V → V → Sto → Option V) (dv : DE) : DS := fun ρ σ => match d ρ σ with
  | some (.loc n, σ₁) => match di ρ σ₁ with
    | some (.int i, σ₂) => match nthS σ₂ n with
      | some (.list xs) => match idx xs i with
        | some a => match dv ρ σ₂ with
          | none => none
          | some (b, σ₃) => match f a b σ₃ with
            | none => none
            | some c => match setV (.loc n) (.int i) c σ₃ with
              | none => none
              | some σ₄ => some (none, ρ, σ₄)
        | none => none
      | _ => none
    | _ => none
  | _ => none
noncomputable def appendS (d dv : DE) : DS := fun ρ σ => match d ρ σ with
  | some (.loc n, σ₁) => match nthS σ₁ n with
    | some (.list _) => match dv ρ σ₁ with
      | none => none
      | some (v, σ₂) => match nthS σ₂ n with
        | some (.list xs) => match Nat.ble xs.length 100000 with
          | true => some (none, ρ, setS σ₂ n (.list (xs ++ [v])))
          | false => none
        | _ => none
    | _ => none
  | _ => none

section
variable {C : Cx} {dp : Nat} {sc : Scope}

theorem TA_sub {o i : Expr} {p : Pos} {d di : DE} (ho : SE C dp sc o d) (hi : SE C dp sc i di) : TA C dp sc (.Subscript o i p) (subT d di) := by
  intro A env s X μ ρ σ v u ρ' σ' Q E he hA st r hd hQ
  unfold subT at hd
  split at hd
  · cases hd
  · rename_i uo σ₁ h1
    split at hd
    · cases hd
    · rename_i ui σ₂ h2
      split at hd
      · cases hd
      · rename_i σ₃ h3
        cases hd
        rw [arm_assign_Subscript]
        refine wpAny_bind (wpAny_holding (ho A env s X μ ρ σ _ _ _ E he hA st h1 fun ov h' tk X' μ' P R => ?_))
        refine wpAny_bind (wpAny_holding (hi A env { s with heap := h', toks := tk } X' μ' ρ σ₁ _ _ _ E he hA P.st h2 fun iv h₂ tk₂ X₂ μ₂ P₂ R₂ => ?_))
        refine wpAny_bind (wpAny_standAt (wpAny_bind (wpAny_holding ?_)))
        refine wp_setItem (s := { s with heap := h₂, toks := tk₂ }) hA P₂.st (P₂.rv P.st R) R₂ (P₂.rv P.st (P.rv st r)) h3 fun h₃ tk₃ P₃ => ?_
        exact wpAny_release' (hQ h₃ tk₃ X₂ μ₂ (FP.of_post ((P.trans P₂).trans P₃)))

inductive TAs (C : Cx) (dp : Nat) (sc : Scope) : List Expr → List (V → Rho → Sto → Option (Rho × Sto)) → Prop
  | nil : TAs C dp sc [] []
  | cons {e : Expr} {es : List Expr} {t : V → Rho → Sto → Option (Rho × Sto)} {ts : List (V → Rho → Sto → Option (Rho × Sto))} : (∀ env, assignEach (e :: es) env = (false, assign e env) :: assignEach es env) → TA C dp sc e t → TAs C dp sc es ts → TAs C dp sc (e :: es) (t :: ts)

theorem tas_length {es : List Expr} {ts : List (V → Rho → Sto → Option (Rho × Sto))} (h : TAs C dp sc es ts) (env : Env) : (assignEach es env).length = ts.length ∧ (assignEach es env).findIdx? (·.1) = none := by
  induction h with
  | nil => exact ⟨rfl, rfl⟩
  | cons h1 h2 _ ih =>
    rw [h1]
    refine ⟨by simp [ih.1], ?_⟩
    rw [List.findIdx?_cons]
    simp [ih.2]
theorem runT_length : ∀ {ts : List (V → Rho → Sto → Option (Rho × Sto))} {us : List V} {ρ : Rho} {σ : Sto} {r : Rho × Sto}, runT ts us ρ σ = some r → ts.length = us.length
  | [], [], _, _, _, _ => rfl
  | t :: ts, u :: us, ρ, σ, r, h => by
    simp only [runT] at h
    split at h
    · cases h
    · simp [runT_length h]
  | [], _ :: _, _, _, _, h => by cases h
  | _ :: _, [], _, _, _, h => by cases h

theorem RVs.fp {env : Env} {ρ ρ' : Rho} {h h' : Heap} {X X' μ μ' : List Addr} {σ σ' : Sto} {vs : List Value} {us : List V} (s : St C env h X μ ρ σ) (x : FP C env ρ' h X μ σ h' X' μ' σ') (r : RVs C h X μ vs us) : RVs C h' X' μ' vs us :=
  ⟨r.1, fun i v u e e' => x.rv s (r.2 i v u e e')⟩
theorem RVs.keep {h h' : Heap} {X μ : List Addr} {vs : List Value} {us : List V} (k : ∀ b o, h.get? b = some o → h'.get? b = some o) (r : RVs C h X μ vs us) : RVs C h' X μ vs us :=
  ⟨r.1, fun i v u e e' => (r.2 i v u e e').stay0 (Stay.of_keeps k)⟩

theorem wp_tas {A : Around} {env : Env} (he : env.scope = sc) (hA : ARoom A dp) {E : Value → Shared → Prop} : ∀ {es : List Expr} {ts : List (V → Rho → Sto → Option (Rho × Sto))}, TAs C dp sc es ts →
    ∀ (s : Shared) (X μ : List Addr) (ρ : Rho) (σ : Sto) (vs : List Value) (us : List V) (ρ' : Rho) (σ' : Sto) (Q : Unit → Shared → Prop), St C env s.heap X μ ρ σ → RVs C s.heap X μ vs us → runT ts us ρ σ = some (ρ', σ') →
    (∀ h' tk X' μ', FP C env ρ' s.heap X μ σ h' X' μ' σ' → Q () { s with heap := h', toks := tk }) →
    wpAny (model C.prog C.w) A (assignInOrder ((assignEach es env).map (·.2)) vs) Q E s := by
  intro es ts h
  induction h with
  | nil =>
    intro s X μ ρ σ vs us ρ' σ' Q st r hp hQ
    cases us with
    | nil =>
      cases hp
      show wpAny _ A (assignInOrder [] vs) Q E s
      cases vs <;> exact wpAny_pure (hQ s.heap s.toks X μ (CP.refl st))
    | cons u us => cases hp
  | @cons e es t ts h1 h2 hr ih =>
    intro s X μ ρ σ vs us ρ' σ' Q st r hp hQ
    cases us with
    | nil => cases hp
    | cons u us =>
      simp only [runT] at hp
      split at hp
      · cases hp
      · rename_i ρ₁ σ₁ ht
        obtain ⟨v, ws, rfl, r1, r2⟩ := r.uncons
        rw [h1]
        refine wpAny_assignInOrder_more (t := assign e env) (ts := (assignEach es env).map (·.2)) (h2 A env s X μ ρ σ v u ρ₁ σ₁ _ E he hA st r1 ht fun h' tk X' μ' P => ?_)
        exact ih { s with heap := h', toks := tk } X' μ' ρ₁ σ₁ ws us ρ' σ' Q P.st (r2.fp st P) hp fun h₂ tk₂ X₂ μ₂ P₂ => hQ h₂ tk₂ X₂ μ₂ (P.trans' P₂)

theorem tup_new {A : Around} {env : Env} {s : Shared} {X μ : List Addr} {ρ : Rho} {σ : Sto} {vs : List Value} {us : List V} {Q : Value → Shared → Prop} {E : Value → Shared → Prop} (st : St C env s.heap X μ ρ σ) (r : RVs C s.heap X μ vs us) (hle : Nat.ble us.length 100000 = true)
    (hQ : ∀ t h', Post C env ρ s.heap X μ σ h' X μ σ → h'.IsTuple t vs.toArray → RVs C h' X μ vs us → Q (.ref t) { s with heap := h' }) : wpAny (model C.prog C.w) A (newTuple vs) Q E s := by
  refine wpAny_newTuple ?_ (by rw [r.1]; exact le_of_ble hle)
  exact hQ _ _ (Post.of_keeps st (push_keeps _ _)) ⟨_, Heap.get?_push_size _ rfl, rfl, 0, rfl⟩ (r.keep (push_keeps _ _))

theorem S1_tup {es vs : List Expr} {k k' : Nat} {p p' pos : Pos} {ds : DL} {ts : List (V → Rho → Sto → Option (Rho × Sto))} (hv : SL C dp sc vs ds) (ht : TAs C dp sc es ts)
    (hs : ∀ env, swapsWithSole [.Tuple es k p] (.Tuple vs k' p') pos.line env = pure false) (hw : ∀ env, env.scope = sc → swappedStores [.Tuple es k p] (.Tuple vs k' p') env = pure none) :
    S1 C dp sc (.Assign [.Tuple es k p] (.Tuple vs k' p') pos) (tupS ds ts) := by
  intro A env s X μ ρ σ r ρ' σ' Q E he hA st hd hQ
  unfold tupS at hd
  split at hd
  · cases hd
  · rename_i us σ₁ h1
    split at hd
    · rename_i hle
      split at hd
      · cases hd
      · rename_i ρ₂ σ₂ h2
        cases hd
        refine Assign_Tuple (PyProof.Rows.Tuple_ (hv A env s X μ ρ σ us σ₁ _ _ E he hA st h1 fun ws h' tk X' μ' P R => ?_)) (hs env) (hw env he)
        refine tup_new (s := { s with heap := h', toks := tk }) P.st R hle fun t h₂ P₂ hT R₂ => ?_
        refine wpAny_assign_Tuple hA.1 hT ((tas_length ht env).1.trans (by rw [runT_length h2, List.size_toArray, R.1])) (tas_length ht env).2 fun h₃ hx => ?_
        have hk : ∀ b o, h₂.get? b = some o → h₃.get? b = some o := fun b o e => hx b o (fun q => by rw [q] at e; exact absurd (show (h₂.get? h₂.objs.size) = some o from e) (by rw [get?_size]; simp)) e
        have P₃ := (P.trans P₂).trans (Post.of_keeps P₂.st hk)
        exact wp_tas he hA ht { s with heap := h₃, toks := tk } X' μ' ρ σ₁ ws us _ _ _ P₃.st (R₂.keep hk) h2 fun h₄ tk₄ X₄ μ₄ P₄ => hQ _ h₄ tk₄ X₄ μ₄ ((FP.of_post P₃).trans' P₄) rfl
    · cases hd

theorem wp_binds (hnd : C.tab.Nodup) {A : Around} {env : Env} (he : env.scope = sc) {E : Value → Shared → Prop} : ∀ {xs : List Str} {is : List Nat} (s : Shared) (X μ : List Addr) (ρ : Rho) (σ : Sto) (vs : List Value) (us : List V) (ρ' : Rho) (Q : Unit → Shared → Prop),
    is.map (fun i => C.tab[i]?) = xs.map some → (∀ x ∈ xs, stIn sc x = true) → St C env s.heap X μ ρ σ → RVs C s.heap X μ vs us → putAll is us ρ = some ρ' →
    (∀ h' tk, FP C env ρ' s.heap X μ σ h' X μ σ → Q () { s with heap := h', toks := tk }) →
    wpAny (model C.prog C.w) A (assignInOrder (xs.map fun n => bindName env n) vs) Q E s
  | [], [], s, X, μ, ρ, σ, vs, us, ρ', Q, _, _, st, r, hp, hQ => by
    cases us with
    | nil =>
      cases hp
      show wpAny _ A (assignInOrder [] vs) Q E s
      cases vs <;> exact wpAny_pure (hQ s.heap s.toks (CP.refl st))
    | cons u us => cases hp
  | [], _ :: _, s, X, μ, ρ, σ, vs, us, ρ', Q, hm, _, st, r, hp, hQ => by simp at hm
  | _ :: _, [], s, X, μ, ρ, σ, vs, us, ρ', Q, hm, _, st, r, hp, hQ => by simp at hm
  | x :: xs, i :: is, s, X, μ, ρ, σ, vs, us, ρ', Q, hm, hl, st, r, hp, hQ => by
    simp only [List.map_cons, List.cons.injEq] at hm
    cases us with
    | nil => cases hp
    | cons u us =>
      obtain ⟨v, ws, rfl, r1, r2⟩ := r.uncons
      refine wpAny_assignInOrder_more (t := bindName env x) (ts := xs.map fun n => bindName env n) (wpAny_bindName (wp_store st hnd (st_of he (hl x (.head _))) hm.1 r1 fun h' tk st' k t y => ?_))
      have P : FP C env _ s.heap X μ σ h' X μ σ := FP.of_store st' k t
      exact wp_binds hnd he { s with heap := h', toks := tk } X μ _ σ ws us ρ' Q hm.2 (fun z m => hl z (.tail _ m)) st' ⟨r2.1, fun j v u e e' => (r2.2 j v u e e').stay0 y⟩ hp fun h₂ tk₂ P₂ => hQ h₂ tk₂ (P.trans' P₂)

theorem RVs.reverse {h : Heap} {X μ : List Addr} {vs : List Value} {us : List V} (r : RVs C h X μ vs us) : RVs C h X μ vs.reverse us.reverse := by
  refine ⟨by simp [r.1], fun i v u e e' => ?_⟩
  have h1 := (List.getElem?_eq_some_iff.mp e).1
  have h2 := (List.getElem?_eq_some_iff.mp e').1
  rw [List.length_reverse] at h1 h2
  rw [List.getElem?_reverse h1] at e
  rw [List.getElem?_reverse h2, ← r.1] at e'
  exact r.2 _ v u e e'

theorem S1_swap (hnd : C.tab.Nodup) {es vs : List Expr} {k k' : Nat} {p p' pos : Pos} {ds : DL} {xs : List Str} {is : List Nat} (hv : SL C dp sc vs ds) (hxs : is.map (fun i => C.tab[i]?) = xs.reverse.map some) (hl : ∀ x ∈ xs, stIn sc x = true)
    (hs : ∀ env, swapsWithSole [.Tuple es k p] (.Tuple vs k' p') pos.line env = pure false) (hw : ∀ env, env.scope = sc → swappedStores [.Tuple es k p] (.Tuple vs k' p') env = pure (some xs)) :
    S1 C dp sc (.Assign [.Tuple es k p] (.Tuple vs k' p') pos) (swapS ds is) := by
  intro A env s X μ ρ σ r ρ' σ' Q E he hA st hd hQ
  unfold swapS at hd
  split at hd
  · cases hd
  · rename_i us σ₁ h1
    split at hd
    · rename_i hle
      split at hd
      · cases hd
      · rename_i ρ₂ h2
        cases hd
        have hlen : xs.length = us.length := by
          have e1 := putAll_length h2
          have e2 := congrArg List.length hxs
          rw [revOnto_eq] at e1
          simp at e1 e2
          omega
        refine Assign_Tuple_swapped (PyProof.Rows.Tuple_ (hv A env s X μ ρ σ us _ _ _ E he hA st h1 fun ws h' tk X' μ' P R => ?_)) (hs env) (hw env he)
        refine tup_new (s := { s with heap := h', toks := tk }) P.st R hle fun t h₂ P₂ hT R₂ => ?_
        rw [show xs.length = ws.toArray.size by rw [hlen, List.size_toArray, R.1]]
        refine wpAny_unpackItems_tuple hA.1 hT fun h₃ hx => ?_
        have hk : ∀ b o, h₂.get? b = some o → h₃.get? b = some o := fun b o e => hx b o (fun q => by rw [q] at e; exact absurd (show (h₂.get? h₂.objs.size) = some o from e) (by rw [get?_size]; simp)) e
        have P₃ := (P.trans P₂).trans (Post.of_keeps P₂.st hk)
        rw [revOnto_eq, List.append_nil] at h2
        refine wp_binds hnd he { s with heap := h₃, toks := tk } X' μ' ρ _ ws.reverse us.reverse _ _ hxs (fun x m => hl x (List.mem_reverse.mp m)) P₃.st (R₂.keep hk).reverse h2 fun h₄ tk₄ P₄ => hQ _ h₄ tk₄ X' μ' ((FP.of_post P₃).trans' P₄) rfl
    · cases hd

theorem S1_augSub {o i e : Expr} {p pos : Pos} {op : Operator} {d di dv : DE} {f : V → V → Sto → Option V} (ho : SE C dp sc o d) (hi : SE C dp sc i di) (hf : Op2 C (inplaceOp op) f) (hv : SE C dp sc e dv)
    (ha : ∀ ov iv new, augStore i ov iv new = (do holding [new, ov, iv] (setItem ov iv new); release [new, ov, iv] []; pure .next)) :
    S1 C dp sc (.AugAssign (.Subscript o i p) op e pos) (augSubS d di f dv) := by
  intro A env s X μ ρ σ r ρ' σ' Q E he hA st hd hQ
  unfold augSubS at hd
  split at hd
  · rename_i n σ₁ h1
    split at hd
    · rename_i j σ₂ h2
      split at hd
      · rename_i xs hn
        split at hd
        · rename_i a hix
          split at hd
          · cases hd
          · rename_i b σ₃ h3
            split at hd
            · cases hd
            · rename_i c h4
              split at hd
              · cases hd
              · rename_i σ₄ h5
                cases hd
                refine wpAny_AugAssign_SubscriptAny (ho A env s X μ ρ σ _ _ _ E he hA st h1 fun ov h' tk X' μ' P R => ?_) ha
                refine hi A env { s with heap := h', toks := tk } X' μ' ρ σ₁ _ _ _ E he hA P.st h2 fun iv h₂ tk₂ X₂ μ₂ P₂ R₂ => ?_
                have R' := P₂.rv P.st R
                obtain ⟨q, rfl, hμ⟩ := id R'
                obtain ⟨t, rfl⟩ := R₂.int
                have hob := P₂.st.sto.obj n q _ hμ (nthS_eq _ _ _ hn)
                cases hob with
                | @list vs _ hl hlen hitems =>
                  refine wp_list_item (C := C) (s := { s with heap := h₂, toks := tk₂ }) hl hlen hix fun m v g1 g2 => ?_
                  have Ra := hitems m v a g1 g2
                  refine hv A env { s with heap := h₂, toks := tk₂ } X₂ μ₂ ρ σ₂ _ _ _ E he hA P₂.st h3 fun w h₃ tk₃ X₃ μ₃ P₃ R₃ => ?_
                  refine hf A { s with heap := h₃, toks := tk₃ } X₃ μ₃ _ v w a b c _ E (P₃.st.hp hA) (P₃.rv P₂.st Ra) R₃ h4 fun z h₄ tk₄ k R₄ => ?_
                  have P₄ := P₃.trans (Post.of_keeps P₃.st k)
                  refine wp_setItem (s := { s with heap := h₄, toks := tk₄ }) hA P₄.st (P₄.rv P₂.st R') (P₄.rv P₂.st R₂) R₄ h5 fun h₅ tk₅ P₅ => ?_
                  exact hQ _ h₅ tk₅ X₃ μ₃ (FP.of_post (((P.trans P₂).trans P₄).trans P₅)) rfl
        · cases hd
      · cases hd
    · cases hd
  · cases hd

theorem wp_append {A : Around} {env : Env} {s : Shared} {X μ : List Addr} {ρ : Rho} {σ : Sto} {n : Nat} {a : Addr} {xs : List V} {v : Value} {u : V} {Q : Value → Shared → Prop} {E : Value → Shared → Prop} (st : St C env s.heap X μ ρ σ)
    (hμ : μ[n]? = some a) (hn : nthS σ n = some (.list xs)) (hle : Nat.ble xs.length 100000 = true) (r : RV C.prog C.w s.heap X μ v u)
    (hQ : ∀ h', Post C env ρ s.heap X μ σ h' X μ (setS σ n (.list (xs ++ [u]))) → Q .none { s with heap := h' }) : wpAny (model C.prog C.w) A (call (.builtin "list.append") [.ref a, v]) Q E s := by
  have hσ := nthS_eq _ _ _ hn
  have hX := st.sto.inX a ⟨n, _, hμ, hσ⟩
  have hob := st.sto.obj n a _ hμ hσ
  cases hob with
  | @list vs _ hl hlen hitems =>
    refine wpAny_list_append_plain hl (fun h' g1 g2 => ?_) (by rw [List.size_toArray, hlen]; exact le_of_ble hle)
    have stay : Stay s.heap X h' X := fun b q nb e => ⟨(g2.2 b (fun e' => nb (e' ▸ hX))).trans e, nb⟩
    refine hQ h' (Post.mut st hμ hσ g2 (by obtain ⟨m, e⟩ := g1; rw [e]; rfl) (.list (vs := vs ++ [v]) (by simpa using g1) (by simp [hlen]) fun i v' u' e e' => ?_))
    by_cases c : i < vs.length
    · rw [List.getElem?_append_left c] at e
      rw [List.getElem?_append_left (hlen ▸ c)] at e'
      exact (hitems i v' u' e e').stay0 stay
    · rw [List.getElem?_append_right (Nat.not_lt.mp c)] at e
      rw [List.getElem?_append_right (hlen ▸ Nat.not_lt.mp c), ← hlen] at e'
      cases k : i - vs.length with
      | zero =>
        rw [k] at e e'
        simp only [List.getElem?_cons_zero, Option.some.injEq] at e e'
        subst e; subst e'
        exact r.stay0 stay
      | succ j => rw [k] at e; simp at e

theorem S1_append {o e : Expr} {apos pos cpos : Pos} {d dv : DE} (ho : SE C dp sc o d) (hv : SE C dp sc e dv) (hbase : ∀ env, attributeBase o (Str.ofString "append") env (eval o env) = eval o env) (hline : (apos.endLine == cpos.line) = true)
    (htrees : ∀ env, backTo cpos (starEach [e] env) = [(false, eval e env)]) (hk : (sc.kind == .module) = false) (hs : ∀ env, swapsWith (.Call (.Attribute o (Str.ofString "append") apos) [e] [] cpos) none pos.line env = pure false) :
    S1 C dp sc (.Expr (.Call (.Attribute o (Str.ofString "append") apos) [e] [] cpos) pos) (appendS d dv) := by
  intro A env s X μ ρ σ r ρ' σ' Q E he hA st hd hQ
  unfold appendS at hd
  split at hd
  · rename_i n σ₁ h1
    split at hd
    · rename_i xs₀ hn₀
      split at hd
      · cases hd
      · rename_i u σ₂ h2
        split at hd
        · rename_i xs hn
          split at hd
          · rename_i hle
            cases hd
            refine wpAny_Expr_any ?_ (by unfold interactive; rw [he, hk]; rfl) (hs env)
            refine wpAny_Call_method (T := "list") (id := "list.append") (hbase env) (by rw [htrees]; rfl) hline F.plainAttrs_list F.slot_list_append F.type_list_append ?_
            refine ho A env s X μ ρ σ _ _ _ E he hA st h1 fun ov h' tk X' μ' P R => ?_
            obtain ⟨a, rfl, hμ⟩ := id R
            have hob := P.st.sto.obj n a _ hμ (nthS_eq _ _ _ hn₀)
            cases hob with
            | @list vs _ hl hlen hitems =>
              refine ⟨hl.isList.typeIs, fun b e => ?_, ?_⟩
              · cases e
                obtain ⟨m, e⟩ := hl
                exact ⟨_, e, rfl⟩
              · rw [htrees]
                refine Calls.callWith_builtin rfl (Calls.evalArgs_plain (Calls.spliced_cons (hv A env { s with heap := h', toks := tk } X' μ' ρ σ₁ _ _ _ E he hA P.st h2 fun w h₂ tk₂ X₂ μ₂ P₂ R₂ => Calls.spliced_nil ?_)))
                have R' := P₂.rv P.st R
                obtain ⟨a', e', hμ'⟩ := R'
                cases e'
                exact wp_append (s := { s with heap := h₂, toks := tk₂ }) P₂.st hμ' hn hle R₂ fun h₃ P₃ => hQ _ h₃ tk₂ X₂ μ₂ (FP.of_post ((P.trans P₂).trans P₃)) rfl
          · cases hd
        · cases hd
    · cases hd
  · cases hd
end
end Mine
end

section
set_option autoImplicit false
set_option Elab.async false
set_option maxRecDepth 100000
namespace Mine

noncomputable def killS : Sto → Nat → Sto
  | [], _ => []
  | _ :: r, 0 => none :: r
  | p :: r, n + 1 => p :: killS r n
theorem killS_get : ∀ (σ : Sto) (n m : Nat), (killS σ n)[m]? = if n = m then (σ[m]?).map (fun _ => none) else σ[m]?
  | [], n, m => by simp [killS]
  | p :: r, 0, m => by cases m <;> simp [killS]
  | p :: r, n + 1, m => by
    cases m with
    | zero => simp [killS]
    | succ m => simp only [killS, List.getElem?_cons_succ, killS_get r n m, Nat.add_right_cancel_iff]
theorem killS_len : ∀ (σ : Sto) (n : Nat), (killS σ n).length = σ.length
  | [], _ => rfl
  | _ :: _, 0 => rfl
  | _ :: r, n + 1 => by simp [killS, killS_len r n]

/-- what a call hands back: an object of the store is never changed again -/
noncomputable def freezeR : V → Sto → Option (V × Sto)
  | .loc n, σ => match nthS σ n with
    | some (.list xs) => match noLocs xs with
      | true => some (.lst xs, killS σ n)
      | false => none
    | some (.dict es) => some (.dct es, killS σ n)
    | none => none
  | v, σ => some (v, σ)

/-- what a call does -/
abbrev DC := List V → Sto → Option (V × Sto)
noncomputable def callD (is : List Nat) (d : DS) : DC := fun us σ => match putAll is us [] with
  | none => none
  | some ρ => match d ρ σ with
    | none => none
    | some (none, _, σ') => some (.none, σ')
    | some (some u, _, σ') => freezeR u σ'

noncomputable def CO (C : Cx) (dp : Nat) (a : Addr) (d : DC) : Prop :=
  ∀ (A : Around) (env : Env) (s : Shared) (X μ : List Addr) (ρ : Rho) (σ : Sto) (vs : List Value) (us : List V) (u : V) (σ' : Sto) (Q : Value → Shared → Prop) (E : Value → Shared → Prop),
    ARoom A dp → St C env s.heap X μ ρ σ → RVs C s.heap X μ vs us → d us σ = some (u, σ') →
    (∀ v h' tk X' μ', Post C env ρ s.heap X μ σ h' X' μ' σ' → RV C.prog C.w h' X' μ' v u → Q v { s with heap := h', toks := tk }) →
    wpAny (model C.prog C.w) A (call (.ref a) vs) Q E s

structure FnAt (C : Cx) (a : Addr) (ps : List Str) (sc : Scope) (body : List Stmt) : Prop where
  here : ∃ o fd, C.base.get? a = some o ∧ o.data = .func fd ∧ fd.scope = sc ∧ fd.body = .stmts body ∧ fd.closure = [] ∧ fd.globals = mainGlobals ∧ fd.builtins = builtinsNs ∧ C.base.CodeRec fd.code fd.qualname ∧
    ∀ vals : List Value, vals.length = ps.length → bindArgs fd ⟨vals, []⟩ = pure (ps.zip vals)

structure FnOk (C : Cx) (ps : List Str) (is : List Nat) (sc : Scope) : Prop where
  kind : sc.kind = .function
  co : sc.isCoroutine = false
  gen : sc.isGenerator = false
  ids : is.map (fun i => C.tab[i]?) = ps.map some
  params : ∀ x ∈ ps, sc.names.lookup x = some .local ∨ sc.names.lookup x = some .cell
  nodup : ps.Nodup
  nofree : ∀ x, sc.names.lookup x ≠ some .free

section
variable {C : Cx} {env : Env} {h h' : Heap} {X X' μ μ' : List Addr} {ρ : Rho} {σ σ' : Sto}

theorem Post.kill {n : Nat} {a : Addr} {o : SO} (s : St C env h X μ ρ σ) (P : Post C env ρ h X μ σ h' X' μ' σ') (hμ : μ'[n]? = some a) (hσ : σ'[n]? = some (some o)) :
    Post C env ρ h X μ σ h' (X'.filter fun b => decide (b ≠ a)) μ' (killS σ' n) := by
  have la : Live μ' σ' a := ⟨n, o, hμ, hσ⟩
  have liv : ∀ b, Live μ' (killS σ' n) b → Live μ' σ' b ∧ b ≠ a := by
    rintro b ⟨m, p, h1, h2⟩
    rw [killS_get] at h2
    by_cases c : n = m
    · subst c
      rw [if_pos rfl, hσ] at h2
      cases h2
    · rw [if_neg c] at h2
      exact ⟨⟨m, p, h1, h2⟩, fun q => c (idx_unique P.st.sto.nodup hμ (q ▸ h1))⟩
  have stay : Stay h' X' h' (X'.filter fun b => decide (b ≠ a)) := fun b o n e => ⟨e, fun m => n (List.mem_filter.mp m).1⟩
  refine Post.of_parts s (fun b m => P.st.there b (List.mem_filter.mp m).1) ⟨by rw [killS_len]; exact P.st.sto.len, P.st.sto.nodup, P.st.sto.there, fun b l => ?_, fun m b p h1 h2 => ?_⟩
    ⟨P.adv.keep, P.adv.there, fun b m => P.adv.new b (List.mem_filter.mp m).1⟩ P.ext (fun b l => P.live b (liv b l).1) fun b m e nl => ?_
  · exact List.mem_filter.mpr ⟨P.st.sto.inX b (liv b l).1, by simpa using (liv b l).2⟩
  · have := (liv b ⟨m, p, h1, h2⟩).2
    rw [killS_get] at h2
    by_cases c : n = m
    · subst c
      rw [if_pos rfl, hσ] at h2
      cases h2
    · rw [if_neg c] at h2
      exact (P.st.sto.obj m b p h1 h2).stay0 stay fun _ e => e
  · refine List.mem_filter.mpr ⟨P.sub b m e nl, ?_⟩
    simpa using fun q : b = a => (P.live b (q ▸ la)).elim nl fun z => by rw [z] at e; cases e

theorem freeze_post {u r : V} {v : Value} {σ'' : Sto} {Q : Prop} (s : St C env h X μ ρ σ) (P : Post C env ρ h X μ σ h' X' μ' σ') (R : RV C.prog C.w h' X' μ' v u) (hf : freezeR u σ' = some (r, σ''))
    (hQ : ∀ X'', Post C env ρ h X μ σ h' X'' μ' σ'' → RV C.prog C.w h' X'' μ' v r → Q) : Q := by
  cases u with
  | loc n =>
    obtain ⟨a, rfl, hμ⟩ := R
    simp only [freezeR] at hf
    have stay : Stay h' X' h' (X'.filter fun b => decide (b ≠ a)) := fun b o n e => ⟨e, fun m => n (List.mem_filter.mp m).1⟩
    have na : a ∉ X'.filter fun b => decide (b ≠ a) := fun m => by simpa using (List.mem_filter.mp m).2
    split at hf
    · rename_i xs hn
      split at hf
      · rename_i hnl
        cases hf
        have hσ := nthS_eq _ _ _ hn
        have hob := P.st.sto.obj n a _ hμ hσ
        cases hob with
        | @list vs _ hl hlen hi =>
          refine hQ _ (P.kill s hμ hσ) (RF.lst hl na hlen fun i v x e e' => ?_)
          exact ((hi i v x e e').toRF (noLocs_get hnl i x e')).stay stay
      · cases hf
    · rename_i es hn
      cases hf
      have hσ := nthS_eq _ _ _ hn
      have hob := P.st.sto.obj n a _ hμ hσ
      cases hob with
      | @dict ys _ hd hs hy hk hi =>
        obtain ⟨hd', hy'⟩ := dictOfH_stay stay hd (fun _ e => e) hy
        exact hQ _ (P.kill s hμ hσ) (RF.dct hd' na hs hy' hk fun i y e e1 e2 => (hi i y e e1 e2).stay stay)
    · cases hf
  | _ => cases hf; exact hQ X' P R
end

-- into a call ------------------------------------------------------------------------------------------------------------
theorem bindL_other {kindOf : Str → Option NameKind} {x : Str} : ∀ {binds : List (Str × Value)} {m : Str → Option Value}, x ∉ binds.map (·.1) → bindL kindOf binds m x = m x
  | [], m, _ => rfl
  | (n, v) :: r, m, h => by
    simp only [List.map_cons, List.mem_cons, not_or] at h
    unfold bindL
    rw [bindL_other h.2]
    split
    · exact if_neg h.1
    · rfl
theorem bindC_other {kindOf : Str → Option NameKind} {x : Str} : ∀ {binds : List (Str × Value)} {m : Str → Option Value}, x ∉ binds.map (·.1) → bindC kindOf binds m x = m x
  | [], m, _ => rfl
  | (n, v) :: r, m, h => by
    simp only [List.map_cons, List.mem_cons, not_or] at h
    unfold bindC
    rw [bindC_other h.2]
    split
    · rfl
    · exact if_neg h.1
theorem bindL_get {kindOf : Str → Option NameKind} {x : Str} {v : Value} : ∀ {binds : List (Str × Value)} {m : Str → Option Value}, (binds.map (·.1)).Nodup → (x, v) ∈ binds → kindOf x = some .local → bindL kindOf binds m x = some v
  | [], m, _, h, _ => nomatch h
  | (n, w) :: r, m, hn, h, hk => by
    simp only [List.map_cons, List.nodup_cons] at hn
    unfold bindL
    rcases List.mem_cons.mp h with e | h
    · cases e
      rw [bindL_other hn.1, if_pos hk]
      simp
    · exact bindL_get hn.2 h hk
theorem bindC_get {kindOf : Str → Option NameKind} {x : Str} {v : Value} : ∀ {binds : List (Str × Value)} {m : Str → Option Value}, (binds.map (·.1)).Nodup → (x, v) ∈ binds → kindOf x ≠ some .local → bindC kindOf binds m x = some v
  | [], m, _, h, _ => nomatch h
  | (n, w) :: r, m, hn, h, hk => by
    simp only [List.map_cons, List.nodup_cons] at hn
    unfold bindC
    rcases List.mem_cons.mp h with e | h
    · cases e
      rw [bindC_other hn.1, if_neg hk]
      simp
    · exact bindC_get hn.2 h hk

theorem lk_putAll {i : Nat} {u : V} : ∀ {is : List Nat} {us : List V} {ρ ρ' : Rho}, putAll is us ρ = some ρ' → lk ρ' i = some u → lk ρ i = some u ∨ ∃ j : Nat, is[j]? = some i ∧ us[j]? = some u
  | [], [], ρ, ρ', h, e => by cases h; exact .inl e
  | k :: is, v :: us, ρ, ρ', h, e => by
    rcases lk_putAll (is := is) (us := us) h e with q | ⟨j, q1, q2⟩
    · rw [lk_put] at q
      by_cases c : k = i
      · rw [if_pos c] at q
        cases q
        exact .inr ⟨0, by simp [c], rfl⟩
      · rw [if_neg c] at q
        exact .inl q
    · exact .inr ⟨j + 1, by simpa using q1, by simpa using q2⟩
  | [], _ :: _, _, _, h, _ => by cases h
  | _ :: _, [], _, _, h, _ => by cases h

section
variable {C : Cx} {dp : Nat} {sc : Scope}

theorem CO_of (ok : C.Ok) {a : Addr} {ps : List Str} {is : List Nat} {body : List Stmt} {d : DS} (F : FnAt C a ps sc body) (G : FnOk C ps is sc) (hb : SS C dp sc body d) : CO C (dp + 1) a (callD is d) := by
  intro A env s X μ ρ σ vs us u σ' Q E hA st hr hd hQ
  unfold callD at hd
  split at hd
  · cases hd
  · rename_i ρ₀ hp
    obtain ⟨o, fd, ho, hdata, hsc, hbody, hclo, hg, hbl, hcode, hbind⟩ := F.here
    have hlen : vs.length = ps.length := by
      have e1 := putAll_length hp
      have e2 := congrArg List.length G.ids
      simp at e2
      rw [hr.1, ← e1, e2]
    have hzip : (ps.zip vs).map (·.1) = ps := by
      rw [List.map_fst_zip]; omega
    have hkn : ∀ x ∈ ps.zip vs, fd.scope.names.lookup x.1 = some .local ∨ fd.scope.names.lookup x.1 = some .cell := fun x m => by
      rw [hsc]
      exact G.params x.1 (List.of_mem_zip m).1
    subst hsc
    refine wpAny_call (codeAny_call_cells (o := o) (fd := fd) (body := body) (binds := ps.zip vs) (by have := hA.2.1; omega) (st.keep a o ho) hdata (ok.nolimit.keeps st.keep) (hcode.keeps st.keep) hbody (hbind vs hlen) hclo
      (fun x m => (hkn x m).imp_right fun q => ⟨q, cellsFrom_some _ _ _ (.inl q)⟩) ?_ G.co G.gen G.kind)
    intro s₁ I
    obtain ⟨h₁, tk₁, rfl⟩ := I.toInCall.same
    have keep := I.toInCall.keep
    have fresh := I.toInCall.fresh
    have ns := I.toInCall.ns
    generalize hL : s.heap.objs.size = L at I ns fresh
    have hcells : (callEnvC fd L a).cells = cellsFrom (L + 1) fd.scope.names [] := rfl
    have nL : s.heap.get? L = none := Heap.get?_none_of_le (by rw [hL]; exact Nat.le_refl _)
    have nC : ∀ x c, (x, c) ∈ (callEnvC fd L a).cells → s.heap.get? c = none := fun x c m => Heap.get?_none_of_le (by have := I.above x c m; rw [hL]; exact Nat.le_of_lt this)
    have nlive : ∀ b, s.heap.get? b = none → ¬ Live μ σ b := fun b e ⟨n, o, h1, _⟩ => by
      have := st.sto.there b (List.mem_of_getElem? h1)
      rw [e] at this; cases this
    have base : ∀ b, s.heap.get? b = none → C.base.get? b = none := fun b e => by
      cases q : C.base.get? b with
      | none => rfl
      | some o => rw [st.keep b o q] at e; cases e
    let X₁ := L :: ((callEnvC fd L a).cells.filterMap (fun p => (callEnvC fd L a).cells.lookup p.1) ++ X)
    have hX₁ : X₁ = L :: ((callEnvC fd L a).cells.filterMap (fun p => (callEnvC fd L a).cells.lookup p.1) ++ X) := rfl
    clear_value X₁
    have nC : ∀ x c, (callEnvC fd L a).cells.lookup x = some c → s.heap.get? c = none ∧ c ≠ L := fun x c m => by
      have := I.above x c (mem_of_lookup m)
      have this' : L < c := this
      exact ⟨Heap.get?_none_of_le (by rw [hL]; exact Nat.le_of_lt this'), fun q => Nat.lt_irrefl L (by rw [q] at this'; exact this')⟩
    have memC : ∀ c ∈ (callEnvC fd L a).cells.filterMap (fun p => (callEnvC fd L a).cells.lookup p.1), ∃ x, (callEnvC fd L a).cells.lookup x = some c := fun c m => by
      obtain ⟨p, _, e⟩ := List.mem_filterMap.mp m
      exact ⟨p.1, e⟩
    have hnew : ∀ b ∈ X₁, b ∈ X ∨ s.heap.get? b = none := fun b m => by
      rw [hX₁] at m
      rcases List.mem_cons.mp m with rfl | m
      · exact .inr nL
      · rcases List.mem_append.mp m with m | m
        · obtain ⟨x, e⟩ := memC b m
          exact .inr (nC x b e).1
        · exact .inl m
    have hsub : ∀ b ∈ X, b ∈ X₁ := fun b m => by rw [hX₁]; exact .tail _ (List.mem_append.mpr (.inr m))
    have stay : Stay s.heap X h₁ X₁ := fun b o n e => ⟨keep b o e, fun m => (hnew b m).elim n fun q => by rw [q] at e; cases e⟩
    have s' := st.keeps keep
    have hthere : ∀ b ∈ X₁, (h₁.get? b).isSome := fun b m => by
      rw [hX₁] at m
      rcases List.mem_cons.mp m with rfl | m
      · obtain ⟨o, _, _, ho, _⟩ := ns
        rw [show h₁.get? b = some o from ho]; rfl
      · rcases List.mem_append.mp m with m | m
        · obtain ⟨x, e⟩ := memC b m
          obtain ⟨o, ho, _⟩ := I.cell x b e
          rw [show h₁.get? b = some o from ho]; rfl
        · exact s'.there b m
    have sto₁ : SR C.prog C.w h₁ X₁ μ σ := ⟨st.sto.len, st.sto.nodup, s'.sto.there, fun b l => hsub b (st.sto.inX b l), fun n b o h1 h2 => (st.sto.obj n b o h1 h2).stay0 stay fun o e => keep b o e⟩
    have new₁ : ∀ b ∈ X₁, C.base.get? b = none := fun b m => (hnew b m).elim (st.new b) (base b)
    have st₁ : St C (callEnvC fd L a) h₁ X₁ μ ρ₀ σ := by
      refine ⟨s'.keep, new₁, hthere, ⟨G.kind, hg, hbl, ⟨_, ns⟩, by rw [hX₁]; exact .head _, ?_, ?_, ?_, nlive L nL⟩, ?_, sto₁⟩
      · intro x hx
        rcases hx with hx | hx
        · obtain ⟨c, m⟩ := cellsFrom_has fd.scope.names (L + 1) [] x (mem_of_lookup hx)
          exact lookup_of_mem m
        · exact absurd hx (G.nofree x)
      · intro x c e
        have e' := nC x c e
        refine ⟨?_, e'.2, ⟨_, I.cell x c e⟩, nlive c e'.1⟩
        rw [hX₁]
        exact .tail _ (List.mem_append.mpr (.inl (List.mem_filterMap.mpr ⟨(x, c), mem_of_lookup e, e⟩)))
      · intro x y c e1 e2
        exact name_of_addr I.apart (mem_of_lookup e1) (mem_of_lookup e2)
      · intro i x u e1 e2 e3
        rcases lk_putAll hp e2 with q | ⟨j, q1, q2⟩
        · cases q
        · have hx : ps[j]? = some x := by
            have := congrArg (·[j]?) G.ids
            simp only [List.getElem?_map, q1, Option.map_some, e1] at this
            cases hpj : ps[j]? with
            | none => rw [hpj] at this; cases this
            | some y => rw [hpj] at this; simp only [Option.map_some, Option.some.injEq] at this; rw [← this]
          have hj : j < vs.length := by rw [hr.1]; exact (List.getElem?_eq_some_iff.mp q2).1
          have hv : vs[j]? = some vs[j] := List.getElem?_eq_getElem hj
          have hm : (x, vs[j]) ∈ ps.zip vs := by
            have : (ps.zip vs)[j]? = some (x, vs[j]) := by
              rw [List.getElem?_zip_eq_some]; exact ⟨hx, hv⟩
            exact List.mem_of_getElem? this
          have hnd : ((ps.zip vs).map (·.1)).Nodup := by rw [hzip]; exact G.nodup
          refine ⟨vs[j], ?_, (hr.2 j _ u hv q2).stay0 stay⟩
          rcases hkn _ hm with hk | hk
          · exact .inl ⟨hk, _, ns, bindL_get hnd hm hk⟩
          · obtain ⟨c, m⟩ := cellsFrom_has fd.scope.names (L + 1) [] x (mem_of_lookup hk)
            obtain ⟨c', hc'⟩ := lookup_of_mem m
            have hcell := I.cell x c' hc'
            rw [bindC_get hnd hm (by rw [show (callEnvC fd L a).kindOf x = some .cell from hk]; simp)] at hcell
            exact .inr ⟨.inl hk, c', hc', hcell⟩
    have hA' : ARoom (A.deeper (callEnvC fd L a)) dp := by
      refine ⟨hA.1, ?_, ?_⟩
      · show A.depth + 1 + dp + 1 < recursionLimit
        have := hA.2.1; omega
      · show A.units + 3 + 4 * dp + 140 < cLine
        have := hA.2.2; omega
    have own : ∀ b ms, Own (callEnvC fd L a) ms b → s.heap.get? b = none := fun b ms o => by
      rcases o with rfl | ⟨x, _, e⟩
      · exact nL
      · exact (nC x b e).1
    have fin : ∀ h' tk X' μ' ρ' σ₂ v (r : Option V) (f : Flow), FP C (callEnvC fd L a) ρ' h₁ X₁ μ σ h' X' μ' σ₂ → FlowIs C h' X' μ' f r → (match r with | none => some (V.none, σ₂) | some u => freezeR u σ₂) = some (u, σ') → v = (match f with | .ret v => v | _ => .none) → Q v { s with heap := h', toks := tk } := by
      intro h' tk X' μ' ρ' σ₂ v r f P hf hfr hv
      have P' : Post C env ρ s.heap X μ σ h' X' μ' σ₂ := by
        refine Post.of_parts st P.st.there P.st.sto ⟨fun b o n e => P.keep b o n (fun q => by rw [own b _ q] at e; cases e) (fun q => by rw [q] at e; exact absurd e (by rw [show s.heap.get? (callEnvC fd L a).locals = none from nL]; simp)) (by simp) (keep b o e), fun b e => P.there b (by simp) (isSome_of_keeps keep e), fun b m => ?_⟩ ?_ (fun b l => (P.live b l).imp_right fun q => none_of (isSome_of_keeps keep) q) fun b m e n => P.sub b (hsub b m) (isSome_of_keeps keep e) n (by simp)
        · rcases P.new b m with q | q
          · exact hnew b q
          · exact .inr (none_of (isSome_of_keeps keep) q)
        · obtain ⟨ν, e, f⟩ := P.ext
          exact ⟨ν, e, fun b m => none_of (isSome_of_keeps keep) (f b m)⟩
      cases r with
      | none =>
        cases hf
        cases hfr
        subst hv
        exact hQ _ h' tk X' μ' P' .mkNone
      | some w =>
        obtain ⟨z, rfl, R⟩ := hf
        subst hv
        exact freeze_post st P' R hfr fun X'' P'' R'' => hQ _ h' tk X'' μ' P'' R''
    split at hd
    · cases hd
    · rename_i ρ' σ₂ hd'
      cases hd
      exact hb _ (callEnvC fd L a) { s with heap := h₁, toks := tk₁ } X₁ μ ρ₀ σ _ _ _ _ _ rfl hA' st₁ hd' fun f h' tk X' μ' P Fl => fin h' tk X' μ' _ _ _ none f P Fl rfl rfl
    · rename_i u' ρ' σ₂ hd'
      exact hb _ (callEnvC fd L a) { s with heap := h₁, toks := tk₁ } X₁ μ ρ₀ σ _ _ _ _ _ rfl hA' st₁ hd' fun f h' tk X' μ' P Fl => fin h' tk X' μ' _ _ _ (some u') f P Fl hd rfl

/-- a call of a global function -/
noncomputable def callE (c : DC) (ds : DL) : DE := fun ρ σ => match ds ρ σ with
  | none => none
  | some (us, σ₁) => c us σ₁

theorem SE_callF (ok : C.Ok) {x : Str} {a : Addr} {c : DC} {e : Expr} {rest : List Expr} {ds : DL} {pos p : Pos} (hk : sc.names.lookup x = some .globalImplicit) (hd : (x == Str.ofString "__debug__") = false)
    (hm : C.mg x = some (.ref a)) (hf : ∃ o fd, C.base.get? a = some o ∧ o.data = .func fd) (hc : CO C dp a c)
    (hse : ∀ env pos, backTo pos (starEach (e :: rest) env) = (false, eval e env) :: backTo pos (starEach rest env)) (h : SL C dp sc (e :: rest) ds) :
    SE C dp sc (.Call (.Name x p) (e :: rest) [] pos) (callE c ds) := by
  intro A env s X μ ρ σ u σ' Q E he hA hs hdd hQ
  unfold callE at hdd
  split at hdd
  · cases hdd
  · rename_i as σ₁ h1
    obtain ⟨o, fd, ho, hdata⟩ := hf
    refine wpAny_Call_NameR (Calls.Name_function_global hs.envOk.kind (by unfold Env.kindOf; rw [he]; exact hk) (Calls.loadGlobal_global (mg := C.mg) (by rw [hs.envOk.glob]; exact ok.g.keeps hs.keep) hm ?_) hd)
    refine Calls.callWith_function (o := o) (fd := fd) ?_
    rw [hse]
    refine Calls.evalArgs_plain ?_
    rw [← hse]
    refine h A env s X μ ρ σ as _ pos _ E he hA hs h1 fun vs h' tk X' μ' P R => ⟨⟨P.st.keep a o ho, hdata⟩, ?_⟩
    exact hc A env { s with heap := h', toks := tk } X' μ' ρ σ₁ vs as u σ' Q E hA P.st R hdd fun v h₂ tk₂ X₂ μ₂ P₂ R₂ => hQ v h₂ tk₂ X₂ μ₂ (P.trans P₂) R₂
theorem CO.mono {a : Addr} {c : DC} {dp' : Nat} (h : CO C dp a c) (hd : dp ≤ dp') : CO C dp' a c := by
  intro A env s X μ ρ σ vs us u σ' Q E hA st hr hdd hQ
  exact h A env s X μ ρ σ vs us u σ' Q E ⟨hA.1, by have := hA.2.1; omega, by have := hA.2.2; omega⟩ st hr hdd hQ
theorem CO.of_le {a : Addr} {c c' : DC} (h : CO C dp a c) (hc : ∀ us σ r, c' us σ = some r → c us σ = some r) : CO C dp a c' := by
  intro A env s X μ ρ σ vs us u σ' Q E hA st hr hdd hQ
  exact h A env s X μ ρ σ vs us u σ' Q E hA st hr (hc _ _ _ hdd) hQ
end
end Mine
end

section
set_option autoImplicit false
set_option Elab.async false
set_option maxRecDepth 100000
namespace Mine

section
variable {C : Cx} {dp : Nat} {sc : Scope}

theorem S1_asgComp (hnd : C.tab.Nodup) {x : Str} {p : Pos} {i : Nat} {scope : Scope} {dels : List Nat} {ns : List Str} {tgt iter elt : Expr} {ifs : List Expr} {cpos pos : Pos} {ds : DL} {T : Tg} {dt : DT} {de : DE} (ok : CompOk C sc scope dels ns)
    (hi : SI C dp sc tgt iter ds) (hT : SA C (relabelS scope sc) tgt ns T) (hfr : T.all (fun i => dels.contains i) = true) (ht : STs C dp (relabelS scope sc) ifs dt) (hx : SE C dp (relabelS scope sc) elt de) (hs : ∀ env x, foldedSetIterable iter env x = pure x)
    (hxi : C.tab[i]? = some x) (hl : stIn sc x = true) (hsw : ∀ env, env.scope = sc → swapsWith (.ListComp elt [⟨tgt, iter, ifs, 0⟩] scope cpos) (some (.Name x p)) pos.line env = pure true) :
    S1 C dp sc (.Assign [.Name x p] (.ListComp elt [⟨tgt, iter, ifs, 0⟩] scope cpos) pos) (asgS (opND lstV (compL dels ds T (emitL dt de))) (nameT i)) := by
  intro A env s X μ ρ σ r ρ' σ' Q E he hA st hd hQ
  unfold asgS opND at hd
  split at hd
  · cases hd
  · rename_i v σ₁ h1
    split at h1
    · cases h1
    · rename_i us σ₁' hc
      split at h1
      · rename_i c hlst
        cases h1
        cases hd
        unfold lstV at hlst
        split at hlst
        · rename_i hn
          split at hlst
          · cases hlst
            rw [exec_Assign_Name_used x p _ pos (hsw env he)]
            refine wpAny_bind (wpAny_standAt (wpAny_bind ?_))
            show wpAny _ A (do let _ ← comprehension (.ListComp elt [⟨tgt, iter, ifs, 0⟩] scope cpos) scope env (firstIterPos [⟨tgt, iter, ifs, 0⟩] cpos) (newList []) false (eval iter env) (some (assign (.Name x p) env))) _ _ s
            refine wpAny_bind (comp_core (use := some (assign (.Name x p) env)) (Q := fun _ s' => wpAny (model C.prog C.w) A (pure PUnit.unit) (fun _ s'' => wpAny (model C.prog C.w) A (pure Flow.next) Q E s'') E s') ok (tail := fun A acc cenv => emitP C A ifs elt acc cenv) hs hi hT hfr (fun A it acc cenv s Q E h => turn_one s Q E h) (fun A cenv D hA' hc => CTail_emit hA' hc ht hx) he hA st hc fun D cenv h' tk X' μ' nD nL DL own c a ok' => ?_)
            obtain ⟨P, vals, hl', r⟩ := comp_exit (X₃ := []) (fun b => decide (b ≠ D)) st nD nL own c a ok' (Heap.SameBut.refl _ _) (fun b n _ => by simpa using n) (fun _ => rfl)
            have nDX : D ∉ X'.filter fun b => decide (b ≠ D) := fun m => by simpa using (List.mem_filter.mp m).2
            have LX : cenv.locals ∈ X'.filter fun b => decide (b ≠ D) := List.mem_filter.mpr ⟨c.st.envOk.locX, by simpa using Ne.symm DL⟩
            have R : RV C.prog C.w h' (X'.filter fun b => decide (b ≠ D)) μ' (.ref D) (.lst us) := RF.lst hl' nDX r.1 fun j v u e e' => (r.toRFs hn).2 j v u e e'
            show wpAny _ A (assign (.Name x p) env (.ref D)) _ E _
            refine wpAny_assign_Name (wp_store (s := { s with heap := h', toks := tk }) P.st hnd (st_of he hl) hxi R fun h₂ tk₂ st₂ k₂ t₂ y₂ => ?_)
            obtain ⟨m, hm⟩ := c.st.envOk.locals
            have oldO : ∀ b ms, Own env ms b → (s.heap.get? b).isSome := fun b ms o => Own.there st o
            have nO : ∀ ms, ¬ Own env ms cenv.locals := fun ms o => by
              have := oldO _ ms o
              rw [nL] at this; cases this
            refine ⟨m, hm.at' fun o e => k₂ _ o (nO _) e, fun h₃ sb => ?_⟩
            have P₂ : FP C env (put i (.lst us) ρ) s.heap X μ σ h₂ (X'.filter fun b => decide (b ≠ D)) μ' σ' := (FP.of_post P).trans' (FP.of_store st₂ k₂ t₂)
            have nm : cenv.locals ∉ μ' := ok'.locn
            have y : CP C env (put i (.lst us) ρ) env.locals (names env) [cenv.locals] h₂ (X'.filter fun b => decide (b ≠ D)) μ' σ' h₃ ((X'.filter fun b => decide (b ≠ D)).filter fun b => decide (b ≠ cenv.locals)) μ' σ' := by
              have hk : ∀ b o, b ∉ [cenv.locals] → h₂.get? b = some o → h₃.get? b = some o := fun b o n e => (sb.2 b fun q => n (List.mem_singleton.mpr q)).trans e
              refine ⟨st₂.change (wr := [cenv.locals]) hk (fun b m => .inl (List.mem_singleton.mp m ▸ LX)) (fun m => nO [] (.inl (List.mem_singleton.mp m).symm)) (fun z c' e m => nO [z] (.inr ⟨z, .head _, List.mem_singleton.mp m ▸ e⟩)) (fun b m q => nm (List.mem_singleton.mp q ▸ m)) (fun b m => .inl (List.mem_filter.mp m).1) (fun b m n => List.mem_filter.mpr ⟨m, by simpa using n⟩) (fun b m => ?_),
                fun b o _ _ _ n e => hk b o n e, fun b n e => ?_, fun b m => .inl (List.mem_filter.mp m).1, ⟨[], by simp, fun _ m => nomatch m⟩, fun _ l => .inl l, fun b m _ _ n => List.mem_filter.mpr ⟨m, by simpa using n⟩⟩
              · obtain ⟨m1, m2⟩ := List.mem_filter.mp m
                obtain ⟨o, e⟩ := Option.isSome_iff_exists.mp (st₂.there b m1)
                rw [hk b o (by simpa using m2) e]; rfl
              · obtain ⟨o, e⟩ := Option.isSome_iff_exists.mp e
                rw [hk b o n e]; rfl
            have P₃ := CP.trans P₂ y fun b m => by rw [List.mem_singleton.mp m]; exact nL
            exact wpAny_pure (wpAny_pure (hQ .next h₃ tk₂ _ μ' P₃ rfl))
          · cases hlst
        · cases hlst
      · cases h1
end
end Mine
end

section
set_option autoImplicit false
set_option Elab.async false
set_option maxRecDepth 100000
namespace Mine

noncomputable def iaddV : V → V → Sto → Option V
  | .int a, .int b, _ => some (.int (a + b))
  | _, _, _ => none
section
variable {C : Cx}
theorem op_iadd : Op2 C (inplaceOp .Add) iaddV := by
  intro A s X μ σ v w u x r Q E H hv hw hf hQ
  unfold iaddV at hf
  split at hf
  · obtain ⟨t, rfl⟩ := hv.int
    obtain ⟨t', rfl⟩ := hw.int
    cases hf
    exact PyProof.Rows.iadd_int (hQ _ _ _ (fun _ _ e => e) .mkInt)
  · cases hf
theorem op_isub : Op2 C (inplaceOp .Sub) subV := by
  intro A s X μ σ v w u x r Q E H hv hw hf hQ
  unfold subV at hf
  split at hf
  · obtain ⟨t, rfl⟩ := hv.int
    obtain ⟨t', rfl⟩ := hw.int
    cases hf
    exact PyProof.Rows.isub_int (hQ _ _ _ (fun _ _ e => e) .mkInt)
  · cases hf
end

section
variable {C : Cx} {dp : Nat} {sc : Scope}

theorem SE_callF0 (ok : C.Ok) {x : Str} {a : Addr} {c : DC} {pos p : Pos} (hk : sc.names.lookup x = some .globalImplicit) (hd : (x == Str.ofString "__debug__") = false)
    (hm : C.mg x = some (.ref a)) (hf : ∃ o fd, C.base.get? a = some o ∧ o.data = .func fd) (hc : CO C dp a c) : SE C dp sc (.Call (.Name x p) [] [] pos) (callE c nilL) := by
  intro A env s X μ ρ σ u σ' Q E he hA hs hdd hQ
  obtain ⟨o, fd, ho, hdata⟩ := hf
  refine wpAny_Call_NameR (Calls.Name_function_global hs.envOk.kind (by unfold Env.kindOf; rw [he]; exact hk) (Calls.loadGlobal_global (mg := C.mg) (by rw [hs.envOk.glob]; exact ok.g.keeps hs.keep) hm ?_) hd)
  refine Calls.callWith_function (o := o) (fd := fd) (evalArgs_nil3 ⟨⟨hs.keep a o ho, hdata⟩, ?_⟩)
  exact hc A env s X μ ρ σ [] [] u σ' Q E hA hs .nil hdd hQ

/-- a global that is a value, never changed -/
theorem SE_global (ok : C.Ok) {x : Str} {v : Value} {u : V} {p : Pos} (hk : sc.names.lookup x = some .globalImplicit) (hd : (x == Str.ofString "__debug__") = false)
    (hm : C.mg x = some v) (hr : RF C.prog C.w C.base [] v u) : SE C dp sc (.Name x p) (constD u) := by
  intro A env s X μ ρ σ u' σ' Q E he hA hs hdd hQ
  cases hdd
  refine Calls.Name_function_global hs.envOk.kind (by unfold Env.kindOf; rw [he]; exact hk) (Calls.loadGlobal_global (mg := C.mg) (by rw [hs.envOk.glob]; exact ok.g.keeps hs.keep) hm ?_) hd
  refine hQ v s.heap s.toks X μ (Post.refl hs) (RF.toRV (hr.stay fun b o _ e => ⟨hs.keep b o e, fun m => ?_⟩))
  have := hs.new b m
  rw [e] at this; cases this

theorem sf_new {env : Env} {h h' h'' : Heap} {X X' μ μ' : List Addr} {ρ : Rho} {σ σ' : Sto} {D : Addr} {vals : List Value} {us : List V} (_ : St C env h X μ ρ σ) (P : Post C env ρ h X μ σ h' X' μ' σ') (r : RVs C h' X' μ' vals us)
    (hk : ∀ b o, h'.get? b = some o → h''.get? b = some o) (hD : h'.get? D = none) (hl : h''.PlainList D vals.toArray) :
    Post C env ρ h X μ σ h'' (D :: X') μ' σ' ∧ D ∈ D :: X' ∧ D ∉ μ' ∧ h.get? D = none ∧ RVs C h'' (D :: X') μ' vals us := by
  have P₂ : Post C env ρ h' X' μ' σ' h'' (D :: X') μ' σ' := Post.addX P.st hk (fun a m => (List.mem_cons.mp m).elim (fun q => .inr (q ▸ hD)) .inl) (fun a m => .tail _ m)
    (fun a m => (List.mem_cons.mp m).elim (fun q => by obtain ⟨n, e⟩ := hl; rw [q, e]; rfl) fun m => isSome_of_keeps hk (P.st.there a m))
  exact ⟨P.trans P₂, .head _, notin_mu P.st.sto hD, none_back P.adv.there hD, ⟨r.1, fun i v u e e' => (r.2 i v u e e').stay0 (P₂.stay P.st)⟩⟩

noncomputable def dispD (ds : DL) : DL := fun ρ σ => match ds ρ σ with
  | none => none
  | some (us, σ₁) => match Nat.ble us.length 100000 with
    | true => some (us, σ₁)
    | false => none
theorem SF_list {es : List Expr} {ds : DL} {pos : Pos} (h : SL C dp sc es ds) : SF C dp sc (.List es pos) (dispD ds) := by
  intro A env s X μ ρ σ us σ' Q E he hA hs hd hQ
  unfold dispD at hd
  split at hd
  · cases hd
  · rename_i us' σ₁ h1
    split at hd
    · rename_i hle
      cases hd
      refine PyProof.Rows.List_ (h A env s X μ ρ σ us σ' pos _ E he hA hs h1 fun vs h' tk X' μ' P R => ?_)
      refine wpAny_newList ?_ (by rw [R.1]; exact le_of_ble hle)
      have hl : (h'.push { cls := .type "list", dict := none, data := .seq vs.toArray }).PlainList h'.objs.size vs.toArray := ⟨0, Heap.get?_push_size _ rfl⟩
      obtain ⟨P₂, m1, m2, m3, R₂⟩ := sf_new hs P R (push_keeps _ _) (get?_size h') hl
      exact hQ h'.objs.size vs _ tk _ μ' P₂ m1 m2 m3 hl R₂
    · cases hd

theorem rep_list (items : Array Value) : ∀ (n : Nat) (acc : Array Value), (List.foldl (fun x1 x2 => x1 ++ x2) acc (List.replicate n items)).toList = acc.toList ++ (List.replicate n items.toList).flatten
  | 0, acc => by simp
  | n + 1, acc => by
    rw [List.replicate_succ, List.foldl_cons, rep_list items n (acc ++ items)]
    simp [List.replicate_succ]
theorem repV_eq (xs : List V) : ∀ n, repV xs n = (List.replicate n xs).flatten
  | 0 => rfl
  | n + 1 => by simp [repV, repV_eq xs n, List.replicate_succ]
theorem RFs.rep {h : Heap} {X : List Addr} {vs : List Value} {xs : List V} (r : RFs C h X vs xs) : ∀ n, RFs C h X (List.replicate n vs).flatten (List.replicate n xs).flatten
  | 0 => by simpa using RFs.nil
  | n + 1 => by
    simp only [List.replicate_succ, List.flatten_cons]
    exact r.append (RFs.rep r n)
theorem RFs.toRVs {h : Heap} {X μ : List Addr} {vs : List Value} {xs : List V} (r : RFs C h X vs xs) : RVs C h X μ vs xs := ⟨r.1, fun i v x e e' => (r.2 i v x e e').toRV⟩

noncomputable def repD (d₁ d₂ : DE) : DL := fun ρ σ => match d₁ ρ σ with
  | some (.lst xs, σ₁) => match d₂ ρ σ₁ with
    | some (.int n, σ₂) => match Nat.ble n.natAbs 10000 with
      | true => match Nat.ble xs.length 10 with
        | true => some (repV xs n.toNat, σ₂)
        | false => none
      | false => none
    | _ => none
  | _ => none
theorem SF_rep {l r : Expr} {d₁ d₂ : DE} {pos : Pos} (hl : SE C dp sc l d₁) (hr : SE C dp sc r d₂) : SF C dp sc (.BinOp l .Mult r pos) (repD d₁ d₂) := by
  intro A env s X μ ρ σ us σ' Q E he hA hs hd hQ
  unfold repD at hd
  split at hd
  · rename_i xs σ₁ h1
    split at hd
    · rename_i n σ₂ h2
      split at hd
      · rename_i hle
        split at hd
        · rename_i hle'
          cases hd
          have b1 := Nat.le_of_ble_eq_true hle
          have b2 := Nat.le_of_ble_eq_true hle'
          refine wpAny_BinOp (hl A env s X μ ρ σ _ σ₁ _ E he hA hs h1 fun v h' tk X' μ' P R => ?_)
          refine hr A env { s with heap := h', toks := tk } X' μ' ρ σ₁ _ _ _ E he hA P.st h2 fun v₂ h₂ tk₂ X₂ μ₂ P₂ R₂ => ?_
          obtain ⟨a, vs, rfl, hpl, ha, hrf⟩ := (P₂.rv P.st R).lst
          obtain ⟨t, rfl⟩ := R₂.int
          obtain ⟨k, ho⟩ := hpl
          have sz : vs.toArray.size = xs.length := by rw [List.size_toArray, hrf.1]
          have bnd : vs.toArray.size * n.toNat ≤ 100000 := by
            rw [sz]
            have : n.toNat ≤ 10000 := by omega
            calc xs.length * n.toNat ≤ 10 * 10000 := Nat.mul_le_mul b2 this
              _ = 100000 := rfl
          have bnd' : vs.length * n.toNat ≤ 100000 := by simpa using bnd
          have harr : List.foldl (fun x1 x2 => x1 ++ x2) #[] (List.replicate (if vs.toArray.isEmpty = true then 0 else n.toNat) vs.toArray) = ((List.replicate n.toNat vs).flatten).toArray := by
            apply Array.toList_inj.mp
            rw [rep_list]
            by_cases c : vs = []
            · subst c; simp
            · have : vs.toArray.isEmpty = false := by simpa using c
              simp [this]
          refine wpAny_binaryOp_repeat_ref (T := "list") (U := "int") (by decide) ⟨_, ho, rfl⟩ (fun s' => typeIs_int s' n t) noFill_list_mul F.fills_int_mul F.slot_int_rmul repeat_list F.slot_int_index.lookup
            (call_meets F.slot_int_rmul (typeIs_int _ n t) F.entry_int_rmul (F.args_int_rmul_2 _ _) (int___rmul___int_list n t a vs.toArray k)
              ⟨ho, rfl, ⟨_, ho, rfl⟩, call_meets F.slot_list_mul ⟨_, ho, rfl⟩ F.entry_list_mul (F.args_list_mul_2 _ _)
                (AutoListH.list___mul___list_int_3 a vs.toArray k n t (by simp [Builtin.List.listFitsIndex]; omega) (by omega) (by simp [Builtin.List.listTooLong, sizeLine]; omega)) ⟨ho, ?_⟩⟩)
          have hl' : (h₂.push { cls := .type "list", data := .seq (List.foldl (fun x1 x2 => x1 ++ x2) #[] (List.replicate (if vs.toArray.isEmpty = true then 0 else n.toNat) vs.toArray)) }).PlainList h₂.objs.size ((List.replicate n.toNat vs).flatten).toArray := by
            refine ⟨0, ?_⟩
            rw [Heap.get?_push_size _ rfl, harr]
          have hR : RVs C h₂ X₂ μ₂ (List.replicate n.toNat vs).flatten (repV xs n.toNat) := by rw [repV_eq]; exact (hrf.rep n.toNat).toRVs
          obtain ⟨P₃, m1, m2, m3, R₃⟩ := sf_new hs (P.trans P₂) hR (push_keeps _ _) (get?_size h₂) hl'
          exact hQ _ _ _ tk₂ _ μ₂ P₃ m1 m2 m3 hl' R₃
        · cases hd
      · cases hd
    · cases hd
  · cases hd

/-- list(x) of a list -/
noncomputable def listD (ds : DL) : DL := fun ρ σ => match ds ρ σ with
  | some ([.lst xs], σ₁) => match Nat.ble xs.length 100000 with
    | true => some (xs, σ₁)
    | false => none
  | _ => none
theorem SF_callList (ok : C.Ok) {x : Str} {e : Expr} {ds : DL} {pos p : Pos} (hk : sc.names.lookup x = some .globalImplicit) (hd : (x == Str.ofString "__debug__") = false)
    (hm : C.mg x = none) (hn : x ≠ Str.ofString "__name__") (hb : bootBuiltins x = some (.type "list"))
    (hse : ∀ env pos, backTo pos (starEach [e] env) = [(false, eval e env)]) (h : SL C dp sc [e] ds) :
    SF C dp sc (.Call (.Name x p) [e] [] pos) (listD ds) := by
  intro A env s X μ ρ σ us σ' Q E he hA hs hdd hQ
  unfold listD at hdd
  split at hdd
  · rename_i xs σ₁ h1
    split at hdd
    · rename_i hle
      cases hdd
      refine wpAny_Call_NameR (name_builtin ok he hs hk hd hm hn hb ?_)
      refine PyProof.Rows.callWith_type (by rw [hse]; rfl) ?_
      rw [hse]
      refine Calls.evalArgs_plain ?_
      rw [← hse]
      refine h A env s X μ ρ σ _ _ pos _ E he hA hs h1 fun vs h' tk X' μ' P R => ?_
      obtain ⟨v, ws, rfl, r1, r2⟩ := R.uncons
      obtain rfl := r2.unnil
      obtain ⟨a, vs, rfl, hpl, ha, hrf⟩ := r1.lst
      obtain ⟨n, ho⟩ := hpl
      refine call_list_seq (s := { s with heap := h', toks := tk }) a (.inl rfl) ho rfl rfl (fun h₂ c' hk₂ hD => ?_) (by rw [List.size_toArray, hrf.1]; exact le_of_ble hle)
      obtain ⟨P₂, m1, m2, m3, R₂⟩ := sf_new (h'' := h₂) (D := h'.objs.size) (vals := vs) hs P hrf.toRVs hk₂ (get?_size h') ⟨c', hD⟩
      exact hQ _ _ _ tk _ μ' P₂ m1 m2 m3 ⟨c', hD⟩ R₂
    · cases hdd
  · cases hdd
end
end Mine
end

section
open Sem (wp)
set_option autoImplicit false
set_option Elab.async false
set_option maxRecDepth 100000
namespace Mine

theorem enum_newT (l : Addr) (items : Array Value) (n : Nat) (dct : Option Addr) (sl : Array (Option Value)) :
    Meets (Builtin.«enumerate.__new__» ⟨[.type "enumerate", .ref l], []⟩) (fun _ R s => s.heap.get? l = some { cls := .type "tuple", dict := dct, data := .seq items n, slots := sl } ∧
      R (.ok (.ret (.ref (s.heap.push { cls := .type "tuple_iterator", data := .fields #[.ref l, .int 0 0] }).objs.size)))
        { s with heap := (s.heap.push { cls := .type "tuple_iterator", data := .fields #[.ref l, .int 0 0] }).push { cls := .type "enumerate", data := .fields #[.none, .bool false, .ref s.heap.objs.size, rawInt 0, .none, .none] } }) :=
  .of_wp fun prog w A R s h => by
    obtain ⟨hp, g, d, tk, os⟩ := s; obtain ⟨hl, h⟩ := h
    have hsub := sub_enumerate
    have hL : Heap.IsTuple (Shared.heap ⟨hp, g, d, tk, os⟩) l items := ⟨_, hl, rfl, n, rfl⟩
    wp_walk using AutoSeq1.wpAny_loadPart' hl
    refine wpAny_stack_any fun st => wpAny_pure ?_
    split
    · rename_i c _ _ _ _ _
      cases (c == Value.type "enumerate")
      · wp_walk using AutoSeq1.wpAny_loadPart' hl, wpAny_pyIter_tuple hL
        exact ⟨_, rfl, h⟩
      · wp_walk using AutoSeq1.wpAny_loadPart' hl, wpAny_pyIter_tuple hL
        exact ⟨_, rfl, h⟩
    · wp_walk using AutoSeq1.wpAny_loadPart' hl, wpAny_pyIter_tuple hL
      exact ⟨_, rfl, h⟩

section
variable {prog : Program} {w : World} {A : Around} {E : Value → Shared → Prop} {s : Shared}

theorem call_enumT {l : Addr} {items : Array Value} {Q : Value → Shared → Prop} (hL : s.heap.IsTuple l items)
    (h : ∀ h', IsEnum h' (s.heap.objs.size + 1) s.heap.objs.size 0 .none → h'.IsTupleIter s.heap.objs.size l 0 →
      (∀ b o, s.heap.get? b = some o → h'.get? b = some o) → Q (.ref (s.heap.objs.size + 1)) { s with heap := h' }) :
    wpAny (model prog w) A (call (.type "enumerate") [.ref l]) Q E s := by
  obtain ⟨⟨c, dct, dt, sl⟩, hl, hc, n, hd⟩ := hL
  replace hc : c = .type "tuple" := hc
  replace hd : dt = .seq items n := hd
  subst hc hd
  refine callType_new F.called_enumerate (by decide) (F.typeCall_enumerate_1 _) (F.newCall_enumerate_1 _) (fun obj => F.args_object_init_2 obj _) F.entry_enumerate_new (enum_newT l items n dct sl) ⟨hl, ?_⟩
  have hz : (s.heap.push { cls := .type "tuple_iterator", data := .fields #[.ref l, .int 0 0] }).objs.size = s.heap.objs.size + 1 := Heap.size_push ..
  show _ ∧ _
  rw [hz]
  have he : IsEnum ((s.heap.push { cls := .type "tuple_iterator", data := .fields #[.ref l, .int 0 0] }).push
      { cls := .type "enumerate", data := .fields #[.none, .bool false, .ref s.heap.objs.size, rawInt 0, .none, .none] }) (s.heap.objs.size + 1) s.heap.objs.size 0 .none := by
    have := Heap.get?_push_size (s.heap.push { cls := .type "tuple_iterator", data := .fields #[.ref l, .int 0 0] })
      (o := { cls := .type "enumerate", data := .fields #[.none, .bool false, .ref s.heap.objs.size, rawInt 0, .none, .none] }) rfl
    rw [hz] at this; exact this
  exact ⟨⟨_, he, rfl⟩, h _ he ⟨_, Heap.get?_push_of_some _ (Heap.get?_push_size _ rfl), rfl, rfl⟩ fun b o x => Heap.get?_push_of_some _ (Heap.get?_push_of_some _ x)⟩

theorem nextT_item {it t : Addr} {i : Nat} {items : Array Value} {x : Value} {Q : Value → Shared → Prop} (hit : s.heap.IsTupleIter it t i) (ht : s.heap.IsTuple t items) (hx : items[i]? = some x)
    (hQ : ∀ h', h'.IsTupleIter it t (i + 1) → Heap.SameBut it s.heap h' → Q x { s with heap := h' }) : wpAny (model prog w) A (Builtin.SmallTypes.nextOf (.ref it)) Q E s := by
  obtain ⟨o, ho, hc, hd⟩ := id hit
  obtain ⟨ol, hol, _, nl, hdl⟩ := ht
  unfold Builtin.SmallTypes.nextOf
  refine wpAny_bind (wpAny_callSpecial?_slot (name := Str.ofString "__next__") hit.typeIs F.slot_tuple_iterator_next
    (wpAny_call_entry F.slot_tuple_iterator_next hit.typeIs F.entry_tuple_iterator_next ?_ (F.args_tuple_iterator_next_1 _)))
  show wpAny _ _ (field (.ref it) 0 >>= _) _ _ s
  refine wpAny_bind (wpAny_field ho hd (x := .ref t) rfl ?_)
  show wpAny _ _ (if (Value.ref t == Value.none) = true then _ else _) _ _ s
  rw [if_neg (show ¬ ((Value.ref t == Value.none) = true) from Bool.false_ne_true)]
  show wpAny _ _ (field (.ref it) 1 >>= _) _ _ s
  refine wpAny_bind (wpAny_field ho hd (x := .int i 0) rfl ?_)
  show wpAny _ _ (seqItems? (.ref t) >>= _) _ _ s
  refine wpAny_bind (wpAny_seqItems hol hdl ?_)
  simp only [Int.toNat_natCast, hx]
  refine wpAny_bind (wpAny_setField ho hd (by simp) (wpAny_pure ⟨x, rfl, wpAny_pure (hQ _ ?_ (Heap.SameBut.update ..))⟩))
  exact ⟨_, Heap.get?_update_self _ ho (Obj.isFreed_of_fields (Obj.data_mapFields hd _)), (Obj.cls_mapFields ..).trans hc, by
    rw [Obj.data_mapFields hd]; simp [rawInt]⟩

theorem nextT_end {it t : Addr} {i : Nat} {items : Array Value} {Q : Value → Shared → Prop} (hh : A.handled = none) (hit : s.heap.IsTupleIter it t i) (ht : s.heap.IsTuple t items) (hx : items[i]? = none)
    (hE : ∀ h' e, Heap.ExtBut it s.heap h' → (∃ o, h'.get? e = some o ∧ o.cls = .type "StopIteration") → E (.ref e) { s with heap := h' }) :
    wpAny (model prog w) A (Builtin.SmallTypes.nextOf (.ref it)) Q E s := by
  obtain ⟨o, ho, hc, hd⟩ := id hit
  obtain ⟨ol, hol, _, nl, hdl⟩ := ht
  unfold Builtin.SmallTypes.nextOf
  refine wpAny_bind (wpAny_callSpecial?_slot (name := Str.ofString "__next__") hit.typeIs F.slot_tuple_iterator_next
    (wpAny_call_entry F.slot_tuple_iterator_next hit.typeIs F.entry_tuple_iterator_next ?_ (F.args_tuple_iterator_next_1 _)))
  show wpAny _ _ (field (.ref it) 0 >>= _) _ _ s
  refine wpAny_bind (wpAny_field ho hd (x := .ref t) rfl ?_)
  show wpAny _ _ (if (Value.ref t == Value.none) = true then _ else _) _ _ s
  rw [if_neg (show ¬ ((Value.ref t == Value.none) = true) from Bool.false_ne_true)]
  show wpAny _ _ (field (.ref it) 1 >>= _) _ _ s
  refine wpAny_bind (wpAny_field ho hd (x := .int i 0) rfl ?_)
  show wpAny _ _ (seqItems? (.ref t) >>= _) _ _ s
  refine wpAny_bind (wpAny_seqItems hol hdl ?_)
  simp only [Int.toNat_natCast, hx]
  refine wpAny_bind (wpAny_rule (wpAny_bind (wpAny_setField ho hd (by simp) ?_)))
  show wpAny _ _ (newExc (.type "StopIteration") [] >>= _) _ _ _
  refine wpAny_bind ?_
  simp only [newExc, newTuple]
  refine wpAny_bind (wpAny_newObj_type ?_ (by size_fits))
  refine wpAny_bind (m := firstArgMember _ _) (wpAny_of_eq (a := Value.none) (by first | rfl | (simp only [firstArgMember]; rfl)) ?_)
  refine wpAny_newObj_type ?_ (by size_fits)
  simp only [raiseNew]
  refine wpAny_bind (wpAny_handled ?_)
  first | rw [show A.in1.handled = none from hh] | rw [hh]
  refine wpAny_bind (wpAny_pure (wpAny_throw ?_))
  exact hE _ _ (((Heap.SameBut.update ..).extBut.push _).push _) ⟨_, Heap.get?_push_size _ rfl, rfl⟩
end

theorem draws_tuple {prog : Program} {w : World} {A : Around} (hh : A.handled = none) (it l : Addr) (hne : l ≠ it) (items : Array Value) :
    Draws prog w A it [it, l] items.size (fun i v => items[i]? = some v) (fun i h => h.IsTupleIter it l i ∧ h.IsTuple l items) where
  live := fun _ _ st => let ⟨o, ho, _⟩ := st.1; ⟨o, ho⟩
  frame := fun _ _ _ st hk => ⟨Heap.IsTupleIter.at st.1 fun o e => hk it (by simp) o e, Heap.IsTuple.at st.2 fun o e => hk l (by simp) o e⟩
  item := fun i s Q E hi st hQ => by
    refine nextT_item st.1 st.2 (x := items[i]) (by simp [hi]) fun h' hit' hs' => ?_
    exact hQ _ h' s.toks (by simp [hi]) ⟨hit', st.2.extBut hs'.extBut hne⟩ hs'
  done := fun s Q E st hE => nextT_end hh st.1 st.2 (by simp) hE

noncomputable def enumTD (d : DE) : DL := fun ρ σ => match d ρ σ with
  | some (.tup xs, σ₁) => some (enumI 0 xs, σ₁)
  | _ => none
section
variable {C : Cx} {dp : Nat} {sc : Scope}
theorem SI_enumT (ok : C.Ok) {x : Str} {e : Expr} {d : DE} {p pos tp : Pos} {elts : List Expr} {k : Nat} (hk : sc.names.lookup x = some .globalImplicit) (hd : (x == Str.ofString "__debug__") = false)
    (hm : C.mg x = none) (hn : x ≠ Str.ofString "__name__") (hb : bootBuiltins x = some (.type "enumerate"))
    (hse : ∀ env pos, backTo pos (starEach [e] env) = [(false, eval e env)]) (h : SE C dp sc e d) :
    SI C dp sc (.Tuple elts k tp) (.Call (.Name x p) [e] [] pos) (enumTD d) := by
  intro A env s X μ ρ σ xs σ' Q E he hA hs hdd hQ
  unfold enumTD at hdd
  split at hdd
  · rename_i xs' σ₁ h1
    cases hdd
    refine wpAny_Call_NameR (name_builtin ok he hs hk hd hm hn hb ?_)
    refine PyProof.Rows.callWith_type (by rw [hse]; rfl) ?_
    rw [hse]
    refine Calls.evalArgs_plain (Calls.spliced_cons (h A env s X μ ρ σ _ _ _ E he hA hs h1 fun v h' tk X' μ' P R => ?_))
    refine Calls.spliced_nil ?_
    obtain ⟨l, vs, rfl, hl, ha, hr⟩ := R.tup
    refine call_enumT hl fun h₂ g1 g2 g4 => ?_
    refine wpAny_pyIter_enum g1 ?_
    have z1 : h'.get? h'.objs.size = none := get?_size h'
    have z2 : h'.get? (h'.objs.size + 1) = none := Heap.get?_none_of_le (Nat.le_succ _)
    have hl1 : l ≠ h'.objs.size := fun q => by obtain ⟨o, e, _⟩ := hl; rw [q, z1] at e; cases e
    have hl2 : l ≠ h'.objs.size + 1 := fun q => by obtain ⟨o, e, _⟩ := hl; rw [q, z2] at e; cases e
    have P₂ : Post C env ρ h' X' μ' σ' h₂ ((h'.objs.size + 1) :: h'.objs.size :: X') μ' σ' := by
      refine Post.addX P.st g4 (fun a m => ?_) (fun a m => .tail _ (.tail _ m)) (fun a m => ?_)
      · rcases List.mem_cons.mp m with q | m
        · exact .inr (q ▸ z2)
        · rcases List.mem_cons.mp m with q | m
          · exact .inr (q ▸ z1)
          · exact .inl m
      · rcases List.mem_cons.mp m with q | m
        · rw [q, show h₂.get? (h'.objs.size + 1) = _ from g1]; rfl
        · rcases List.mem_cons.mp m with q | m
          · obtain ⟨o, ho, _⟩ := g2
            rw [q, ho]; rfl
          · exact isSome_of_keeps g4 (P.st.there a m)
    refine hQ _ [h'.objs.size + 1, h'.objs.size] (SEnum C (h'.objs.size + 1) h'.objs.size vs.toArray.size (fun i h => h.IsTupleIter h'.objs.size l i ∧ h.IsTuple l vs.toArray) (fun i v => vs.toArray[i]? = some v) l) _ _ _ μ' (P.trans P₂) (fun b m => ?_)
      (Itr.enum hA.1 (draws_tuple (A := A.in1) hA.1 h'.objs.size l hl1 vs.toArray) (Nat.succ_ne_self _) hl2.symm elts k tp) ?_
    · rcases List.mem_cons.mp m with q | m
      · rw [q]
        exact ⟨.head _, none_back P.adv.there z2, notin_mu P.st.sto z2⟩
      · rw [List.mem_singleton.mp m]
        exact ⟨.tail _ (.head _), none_back P.adv.there z1, notin_mu P.st.sto z1⟩
    · refine ⟨0, vs, _, .none, g1, ⟨g2, Heap.IsTuple.at hl fun o e => g4 _ _ e⟩, by simp, fun j v e => by simpa using e, Nat.zero_le _, ?_, ?_, hr.stay (P₂.stay P.st), rfl⟩
      · intro m
        rcases List.mem_cons.mp m with q | m
        · exact hl2 q
        · rcases List.mem_cons.mp m with q | m
          · exact hl1 q
          · exact ha m
      · obtain ⟨o, e, _⟩ := hl
        rw [g4 _ _ e]; rfl
  · cases hdd
end
end Mine
end

section
open Sem (wp)
set_option autoImplicit false
set_option Elab.async false
set_option maxRecDepth 100000
namespace Mine

/-- a dict as it lies, whatever its keys -/
noncomputable def RawD (h : Heap) (d : Addr) (es : Array DictEntry) (ep : Nat) : Prop := ∃ o, h.get? d = some o ∧ o.ExactDict ∧ o.data = .dict es ep

section
variable {prog : Program} {w : World} {A : Around} {E : Value → Shared → Prop} {s : Shared}

theorem RawD.typeIs {d : Addr} {es : Array DictEntry} {ep : Nat} (x : RawD s.heap d es ep) : s.TypeIs (.ref d) "dict" := let ⟨o, ho, hc, _⟩ := x; ⟨o, ho, hc.1⟩
theorem RawD.at {h h' : Heap} {d : Addr} {es : Array DictEntry} {ep : Nat} (x : RawD h d es ep) (e : ∀ o, h.get? d = some o → h'.get? d = some o) : RawD h' d es ep := let ⟨o, ho, r⟩ := x; ⟨o, e _ ho, r⟩

theorem iter_raw {d : Addr} {es : Array DictEntry} {ep : Nat} {Q : Value → Shared → Prop} (hd : (d == sysModules) = false) (hm : RawD s.heap d es ep)
    (hQ : Q (.ref s.heap.objs.size) { s with heap := s.heap.push { cls := .type "dict_keyiterator", data := .fields #[.ref d, .int 0 0, .int es.size 0, .int ep 0] } }) :
    wpAny (model prog w) A (pyIter (.ref d)) Q E s := by
  obtain ⟨o, ho, hc, hdat⟩ := id hm
  have hT : s.TypeIs (.ref d) "dict" := hm.typeIs
  refine wpAny_pyIter_slot hT F.slot_dict_iter (wpAny_call_entry F.slot_dict_iter hT F.entry_dict_iter ?_ (F.args_dict_iter_1 _))
  unfold Builtin.«dict.__iter__»
  refine wpAny_bind ?_
  unfold Builtin.Dict.dictSlotNone
  refine wpAny_bind (wpAny_notOrdered_dict hT ?_)
  show wpAny _ _ (pure (Value.ref d)) _ _ s
  refine wpAny_pure ?_
  show wpAny _ _ (Builtin.Dict.showsAll d >>= _) _ _ s
  unfold Builtin.Dict.showsAll
  rw [if_neg (by rw [hd]; exact Bool.false_ne_true)]
  refine wpAny_bind (wpAny_pure ?_)
  refine wpAny_bind (wpAny_dictEntries ho hdat ?_)
  refine wpAny_bind (wpAny_dictEpoch ho hdat ?_)
  refine wpAny_bind (wpAny_newObj_type (wpAny_pure ⟨_, rfl, "dict_keyiterator", _, ⟨_, Heap.get?_push_size _ rfl, rfl⟩, F.slot_dict_keyiterator_next.lookup, ?_⟩))
  simpa [rawInt] using hQ

theorem next_raw_item {it d : Addr} {i ep : Nat} {es : Array DictEntry} {e : DictEntry} {Q : Option Value → Shared → Prop} (hit : s.heap.IsKeyIter it d i es.size ep) (hm : RawD s.heap d es ep) (hx : es[i]? = some e)
    (hQ : ∀ h', h'.IsKeyIter it d (i + 1) es.size ep → Heap.SameBut it s.heap h' → Q (some e.key) { s with heap := h' }) : wpAny (model prog w) A (pyNext (.ref it)) Q E s := by
  obtain ⟨o, ho, hc, hd⟩ := id hit
  obtain ⟨od, hod, hcd, hdd⟩ := id hm
  unfold pyNext
  refine wpAny_bind (wpAny_attempt (wpAny_callSpecial?_slot (name := Str.ofString "__next__") hit.typeIs F.slot_dict_keyiterator_next
    (wpAny_call_entry F.slot_dict_keyiterator_next hit.typeIs F.entry_dict_keyiterator_next ?_ (F.args_dict_keyiterator_next_1 _))))
  refine wpAny_bind (wpAny_pure ?_)
  refine wpAny_bind ?_
  refine wpAny_bind ?_
  first | refine wpAny_bind (wpAny_typeNameOfWhole_keyiter hit.typeIs (wpAny_pure ?_)) | refine wpAny_bind (wpAny_typeNameOf_keyiter hit.typeIs (wpAny_pure ?_))
  refine wpAny_bind (wpAny_fieldsOf ho hd ?_)
  have hown : Builtin.Dict_items.ownsTuple "dict_keyiterator" = false := by decide
  simp only [hown, Bool.false_eq_true, if_false]
  show wpAny _ _ (if (Value.ref d == Value.none) = true then _ else _) _ _ s
  rw [if_neg (show ¬ ((Value.ref d == Value.none) = true) from Bool.false_ne_true)]
  refine wpAny_bind (wpAny_pure ?_)
  refine wpAny_bind (wpAny_dictEntries hod hdd ?_)
  rw [if_neg (by simp)]
  refine wpAny_bind (wpAny_pure ?_)
  refine wpAny_bind (wpAny_dictEpoch hod hdd ?_)
  rw [if_neg (by simp)]
  refine wpAny_pure ?_
  have hlt' : i < es.size := (Array.getElem?_eq_some_iff.mp hx).1
  have he : es[i] = e := (Array.getElem?_eq_some_iff.mp hx).2
  simp only [show ¬ ((i : Int) < 0) from by omega, if_false, Int.toNat_natCast, Array.getElem?_eq_getElem hlt']
  refine wpAny_bind ?_
  first | refine wpAny_bind (wpAny_typeNameOfWhole_keyiter hit.typeIs (wpAny_pure ?_)) | refine wpAny_bind (wpAny_typeNameOf_keyiter hit.typeIs (wpAny_pure ?_))
  refine wpAny_bind (wpAny_isOneOf_keyiter hit.typeIs ?_)
  show wpAny _ _ (setField (.ref it) 1 (rawInt ((i : Int) + 1)) >>= _) _ _ s
  refine wpAny_bind (wpAny_setField ho hd (by simp) ?_)
  have hit' : (s.heap.update it (Obj.mapFields (·.setIfInBounds 1 (rawInt ((i : Int) + 1))))).IsKeyIter it d (i + 1) es.size ep :=
    ⟨_, Heap.get?_update_self _ ho (Obj.isFreed_of_fields (Obj.data_mapFields hd _)), (Obj.cls_mapFields ..).trans hc, by rw [Obj.data_mapFields hd]; simp [rawInt]⟩
  refine wpAny_bind (wpAny_holding ?_)
  refine wpAny_bind (wpAny_isOneOf_keyiter (s := { s with heap := s.heap.update it (Obj.mapFields (·.setIfInBounds 1 (rawInt ((i : Int) + 1)))) }) hit'.typeIs ?_)
  show wpAny _ _ (pure es[i].key) _ _ _
  exact wpAny_pure (wpAny_pure ⟨_, rfl, wpAny_pure (he ▸ hQ _ hit' (Heap.SameBut.update ..))⟩)

theorem next_raw_end {it d : Addr} {i ep : Nat} {es : Array DictEntry} {Q : Option Value → Shared → Prop} (hh : A.handled = none) (hit : s.heap.IsKeyIter it d i es.size ep) (hm : RawD s.heap d es ep) (hge : es.size ≤ i)
    (hQ : ∀ h', Heap.ExtBut it s.heap h' → Q none { s with heap := h' }) : wpAny (model prog w) A (pyNext (.ref it)) Q E s := by
  obtain ⟨o, ho, hc, hd⟩ := id hit
  obtain ⟨od, hod, hcd, hdd⟩ := id hm
  unfold pyNext
  refine wpAny_bind (wpAny_attempt (wpAny_callSpecial?_slot (name := Str.ofString "__next__") hit.typeIs F.slot_dict_keyiterator_next
    (wpAny_call_entry F.slot_dict_keyiterator_next hit.typeIs F.entry_dict_keyiterator_next ?_ (F.args_dict_keyiterator_next_1 _))))
  refine wpAny_bind (wpAny_pure ?_)
  refine wpAny_bind ?_
  refine wpAny_bind ?_
  first | refine wpAny_bind (wpAny_typeNameOfWhole_keyiter hit.typeIs (wpAny_pure ?_)) | refine wpAny_bind (wpAny_typeNameOf_keyiter hit.typeIs (wpAny_pure ?_))
  refine wpAny_bind (wpAny_fieldsOf ho hd ?_)
  have hown : Builtin.Dict_items.ownsTuple "dict_keyiterator" = false := by decide
  simp only [hown, Bool.false_eq_true, if_false]
  show wpAny _ _ (if (Value.ref d == Value.none) = true then _ else _) _ _ s
  rw [if_neg (show ¬ ((Value.ref d == Value.none) = true) from Bool.false_ne_true)]
  refine wpAny_bind (wpAny_pure ?_)
  refine wpAny_bind (wpAny_dictEntries hod hdd ?_)
  rw [if_neg (by simp)]
  refine wpAny_bind (wpAny_pure ?_)
  refine wpAny_bind (wpAny_dictEpoch hod hdd ?_)
  rw [if_neg (by simp)]
  refine wpAny_pure ?_
  simp only [show ¬ ((i : Int) < 0) from by omega, if_false, Int.toNat_natCast, Array.getElem?_eq_none hge]
  refine wpAny_bind ?_
  first | refine wpAny_bind (wpAny_typeNameOfWhole_keyiter hit.typeIs (wpAny_pure ?_)) | refine wpAny_bind (wpAny_typeNameOf_keyiter hit.typeIs (wpAny_pure ?_))
  show wpAny _ _ (setField (.ref it) 0 .none >>= _) _ _ s
  refine wpAny_bind (wpAny_setField ho hd (by simp) ?_)
  show wpAny _ _ (newExc (.type "StopIteration") [] >>= _) _ _ _
  refine wpAny_bind ?_
  simp only [newExc, newTuple]
  refine wpAny_bind (wpAny_newObj_type ?_ (by size_fits))
  refine wpAny_bind (m := firstArgMember _ _) (wpAny_of_eq (a := Value.none) (by first | rfl | (simp only [firstArgMember]; rfl)) ?_)
  refine wpAny_newObj_type ?_ (by size_fits)
  simp only [raiseNew]
  refine wpAny_bind (wpAny_handled ?_)
  rw [show A.in1.handled = none from hh]
  refine wpAny_bind (wpAny_pure (wpAny_throw ?_))
  refine wpAny_bind (wpAny_isInstance (T := "StopIteration") (b := true) ⟨_, Heap.get?_push_size _ rfl, rfl⟩ isSubtype_stop ?_)
  exact wpAny_pure (hQ _ (((Heap.SameBut.update ..).extBut.push _).push _))
end

noncomputable def intVs : List Int → List V
  | [] => []
  | i :: r => .int i :: intVs r
noncomputable def keysV : List (List Int × V) → List V
  | [] => []
  | (k, _) :: r => .tup (intVs k) :: keysV r
noncomputable def dctI (d : DE) : DL := fun ρ σ => match d ρ σ with
  | some (.dct es, σ₁) => some (keysV es, σ₁)
  | _ => none

section
variable {C : Cx}
noncomputable def SDict (C : Cx) (I d : Addr) (X : List Addr) (h : Heap) (xs : List V) : Prop := ∃ (i : Nat) (es : Array DictEntry) (ep : Nat), h.IsKeyIter I d i es.size ep ∧ RawD h d es ep ∧ d ∉ X ∧ RFs C h X ((es.toList.map (·.key)).drop i) xs

theorem Itr.dict {A : Around} (hh : A.handled = none) {I d : Addr} (hne : d ≠ I) {tgt : Expr} (hp : Plain tgt) : Itr C A I [I] tgt (SDict C I d) where
  frame := by
    rintro X h xs X' h' ⟨i, es, ep, h1, h2, h3, h4⟩ st hk
    obtain ⟨o, e, r⟩ := id h2
    exact ⟨i, es, ep, Heap.IsKeyIter.at h1 fun o e => hk I (List.mem_singleton.mpr rfl) o e, h2.at fun o e => (st d o h3 e).1, (st d o h3 e).2, h4.stay st⟩
  item := by
    rintro X s x xs Q E ⟨i, es, ep, h1, h2, h3, h4⟩ hw ht hQ
    obtain ⟨v, ws, e, r1, r2⟩ := h4.uncons
    obtain ⟨e1, e2⟩ := drop_uncons e
    rw [List.getElem?_map] at e1
    cases hes : es.toList[i]? with
    | none => rw [hes] at e1; cases e1
    | some en =>
      rw [hes] at e1
      cases e1
      have hI := hw I (List.mem_singleton.mpr rfl)
      refine next_raw_item h1 h2 (e := en) (by simpa using hes) fun h' hit hs => ?_
      have hk : ∀ b o, b ∉ [I] → s.heap.get? b = some o → h'.get? b = some o := fun b o nb e => (hs.2 b fun q => nb (List.mem_singleton.mpr q)).trans e
      have st : Stay s.heap X h' X := fun a o na e => ⟨hk a o (fun m => na (List.mem_singleton.mp m ▸ hI)) e, na⟩
      have th : ∀ b, (s.heap.get? b).isSome → (h'.get? b).isSome := sameBut_there hs (by obtain ⟨o, ho, _⟩ := hit; rw [ho]; rfl)
      refine hQ en.key h' s.toks hk th (r1.stay st) fun Q₂ h₂ => ?_
      rw [hp]
      exact wpAny_pure (h₂ h' hk th (r1.stay st) ⟨i + 1, es, ep, hit, h2.at fun o e => (hs.2 d hne).trans e, h3, by rw [e2]; exact r2.stay st⟩)
  done := by
    rintro X s Q E ⟨i, es, ep, h1, h2, h3, h4⟩ hQ
    have := drop_unnil h4.unnil
    rw [List.getElem?_map] at this
    refine next_raw_end hh h1 h2 (by
      cases q : es.toList[i]? with
      | none => simpa using q
      | some _ => rw [q] at this; cases this) fun h' he => hQ h' s.toks fun b o nb e => he b o (fun q => nb (List.mem_singleton.mpr q)) e
  self := by
    rintro X s xs Q E ⟨i, es, ep, h1, h2, h3, h4⟩ hQ
    exact wpAny_pyIter_keyiter h1 hQ

theorem items_ints {h : Heap} {X : List Addr} : ∀ {k : List Int} {vs : List Value}, ItemsAre (intKind C.prog C.w) k vs → RFs C h X vs (intVs k) := by
  intro k vs h
  induction h with
  | nil => exact RFs.nil
  | @cons x v xs vs h1 _ ih =>
    refine RFs.cons ?_ ih
    have h1' : Value.isInt x v = true := h1
    cases v with
    | int j t =>
      have : j = x := by simpa [Value.isInt] using h1'
      subst this
      exact .int _ t
    | _ => simp [Value.isInt] at h1'
theorem key_rf {h : Heap} {X : List Addr} {k : List Int} {a : Addr} (x : (TK C.prog C.w).is h k a) (hX : a ∉ X) : RF C.prog C.w h X (.ref a) (.tup (intVs k)) := by
  obtain ⟨o, its, n, ho, hc, hd, hi⟩ := x
  have r := items_ints (C := C) (h := h) (X := X) hi
  exact .tup ⟨o, ho, hc, n, by simpa using hd⟩ hX r.1 r.2

theorem keys_rfs {h : Heap} {X : List Addr} : ∀ {ys : List (List Int × Addr × Value)} {es : List (List Int × V)}, (∀ y ∈ ys, (TK C.prog C.w).is h y.1 y.2.1) → (∀ y ∈ ys, y.2.1 ∉ X) → ys.map (·.1) = es.map (·.1) →
    RFs C h X ((ys.map (entryOfKey (TK C.prog C.w))).map (·.key)) (keysV es)
  | [], [], _, _, _ => RFs.nil
  | [], _ :: _, _, _, hm => by simp at hm
  | _ :: _, [], _, _, hm => by simp at hm
  | (k, a, v) :: ys, (k', u) :: es, h1, h2, hm => by
    simp only [List.map_cons, List.cons.injEq] at hm
    obtain ⟨rfl, hm⟩ := hm
    exact RFs.cons (key_rf (h1 _ (.head _)) (h2 _ (.head _))) (keys_rfs (fun y m => h1 y (.tail _ m)) (fun y m => h2 y (.tail _ m)) hm)

theorem SI_dict {dp : Nat} {sc : Scope} {e tgt : Expr} {d : DE} (hp : Plain tgt) (h : SE C dp sc e d) : SI C dp sc tgt e (dctI d) := by
  intro A env s X μ ρ σ xs σ' Q E he hA hs hd hQ
  unfold dctI at hd
  split at hd
  · rename_i es σ₁ h1
    cases hd
    refine h A env s X μ ρ σ _ _ _ E he hA hs h1 fun v h' tk X' μ' P R => ?_
    cases R with
    | @dct a ys _ hdo ha hsm hy hk hi =>
      obtain ⟨o, es', ep, ho, hc, hdat, hes, his, hnd⟩ := id hdo
      have hraw : RawD h' a es' ep := ⟨o, ho, hc, hdat⟩
      have hI : h'.get? h'.objs.size = none := get?_size h'
      have hne : a ≠ h'.objs.size := fun q => by rw [q, hI] at ho; cases ho
      refine iter_raw (s := { s with heap := h', toks := tk }) hsm hraw ?_
      have P₂ : Post C env ρ h' X' μ' σ' (h'.push { cls := .type "dict_keyiterator", data := .fields #[.ref a, .int 0 0, .int es'.size 0, .int ep 0] }) (h'.objs.size :: X') μ' σ' :=
        Post.addX P.st (push_keeps _ _) (fun a m => (List.mem_cons.mp m).elim (fun q => .inr (q ▸ hI)) .inl) (fun a m => .tail _ m) (fun a m => (List.mem_cons.mp m).elim (fun q => by rw [q, Heap.get?_push_size _ rfl]; rfl) fun m => isSome_of_keeps (push_keeps _ _) (P.st.there a m))
      refine hQ _ [h'.objs.size] (SDict C h'.objs.size a) _ _ (h'.objs.size :: X') μ' (P.trans P₂) (fun b m => ?_) (Itr.dict hA.1 hne hp) ⟨0, es', ep, ⟨_, Heap.get?_push_size _ rfl, rfl, rfl⟩, hraw.at fun o e => push_keeps _ _ _ _ e, ?_, ?_⟩
      · rw [List.mem_singleton.mp m]
        exact ⟨.head _, none_back P.adv.there hI, notin_mu P.st.sto hI⟩
      · intro m
        rcases List.mem_cons.mp m with q | q
        · exact hne q
        · exact ha q
      · rw [List.drop_zero, hes]
        exact (keys_rfs his hy hk).stay (P₂.stay P.st)
  · cases hd
end
end Mine
end

section
open Sem (wp)
set_option autoImplicit false
set_option Elab.async false
set_option maxRecDepth 100000
namespace Mine

section
variable {C : Cx} {h h' : Heap} {X μ : List Addr} {dp : Nat} {sc : Scope}

theorem wp_dictSet {A : Around} {env : Env} {s : Shared} {ρ : Rho} {σ : Sto} {n : Nat} {a : Addr} {i v : Value} {es : List (List Int × V)} {ks : List V} {k : List Int} {uv : V} {Q : Unit → Shared → Prop} {E : Value → Shared → Prop} (hA : ARoom A dp) (st : St C env s.heap X μ ρ σ)
    (hμ : μ[n]? = some a) (hσ : σ[n]? = some (some (.dict es))) (ri : RV C.prog C.w s.heap X μ i (.tup ks)) (hk : keyOf ks = some k) (rv : RV C.prog C.w s.heap X μ v uv) (hloc : uv.isLoc = false) (hle : Nat.ble es.length 100000 = true)
    (hQ : ∀ h' tk, Post C env ρ s.heap X μ σ h' X μ (setS σ n (.dict (dput es k uv))) → Q () { s with heap := h', toks := tk }) : wpAny (model C.prog C.w) A (dictSet a i v) Q E s := by
  obtain ⟨ka, kvs, rfl, htup, hka, hkr⟩ := ri.tup
  have hX := st.sto.inX a ⟨n, _, hμ, hσ⟩
  have hob := st.sto.obj n a _ hμ hσ
  cases hob with
  | @dict ys _ hd hs hy hkeys hi =>
    have hlen : ys.length = es.length := by have := congrArg List.length hkeys; simpa using this
    refine wpAny_dictSet_heap (knd := TK C.prog C.w) (show A.units < cLine by have := hA.2.2; omega) (isKey htup hk hkr) hd (fun h' hd' hs' => ?_) (by rw [hlen]; exact le_of_ble hle)
    have stay : Stay s.heap X h' X := fun b q nb e => ⟨(hs'.2 b (fun e' => nb (e' ▸ hX))).trans e, nb⟩
    refine hQ h' _ (Post.mut st hμ hσ hs' (by obtain ⟨o, _, _, ho, _⟩ := hd'; rw [ho]; rfl) (.dict hd' hs ?_ (dput_keys hkeys) ?_))
    · intro y m
      unfold storedH at m
      split at m
      · obtain ⟨z, mz, rfl⟩ := List.mem_map.mp m
        unfold putAt
        split
        · exact hy z mz
        · exact hy z mz
      · rcases List.mem_append.mp m with m | m
        · exact hy y m
        · rw [List.mem_singleton.mp m]; exact hka
    · intro m y e e1 e2
      unfold dput at e2
      have rvv : RF C.prog C.w h' X v uv := (rv.toRF hloc).stay stay
      cases hg : dget es k with
      | some r =>
        rw [hg] at e2
        obtain ⟨i₀, y₀, e₀, g1, g2, g3, g4⟩ := dget_at hkeys hg
        rw [storedH_old g4, List.getElem?_map] at e1
        obtain ⟨e', he', rfl⟩ := dmap_at e2
        cases hy' : ys[m]? with
        | none => rw [hy'] at e1; cases e1
        | some y' =>
          rw [hy'] at e1
          cases e1
          have keq : y'.1 = e'.1 := by
            have := congrArg (·[m]?) hkeys
            simpa [hy', he'] using this
          unfold putAt
          by_cases c : e'.1 = k
          · rw [if_pos (keq.trans c), if_pos c]; exact rvv
          · rw [if_neg (fun q => c (keq.symm.trans q)), if_neg c]
            exact (hi m y' e' hy' he').stay stay
      | none =>
        rw [hg] at e2
        rw [storedH_new (dget_none hkeys hg)] at e1
        by_cases c : m < ys.length
        · rw [List.getElem?_append_left c] at e1
          rw [List.getElem?_append_left (hlen ▸ c)] at e2
          exact (hi m y e e1 e2).stay stay
        · rw [List.getElem?_append_right (Nat.not_lt.mp c)] at e1
          rw [List.getElem?_append_right (hlen ▸ Nat.not_lt.mp c), ← hlen] at e2
          cases k' : m - ys.length with
          | zero =>
            rw [k'] at e1 e2
            simp only [List.getElem?_cons_zero, Option.some.injEq] at e1 e2
            subst e1; subst e2
            exact rvv
          | succ j => rw [k'] at e1; simp at e1

/-- a new empty dict is laid -/
theorem new_dict {env : Env} {ρ : Rho} {σ : Sto} (st : St C env h X μ ρ σ) (sysm : (C.base.get? sysModules).isSome) :
    Post C env ρ h X μ σ (h.push { cls := .type "dict", data := .dict #[] }) (h.objs.size :: X) (μ ++ [h.objs.size]) (σ ++ [some (.dict [])]) := by
  have hI : h.get? h.objs.size = none := get?_size h
  have P₁ : Post C env ρ h X μ σ (h.push { cls := .type "dict", data := .dict #[] }) (h.objs.size :: X) μ σ :=
    Post.addX st (push_keeps _ _) (fun a m => (List.mem_cons.mp m).elim (fun q => .inr (q ▸ hI)) .inl) (fun a m => .tail _ m) (fun a m => (List.mem_cons.mp m).elim (fun q => by rw [q, Heap.get?_push_size _ rfl]; rfl) fun m => isSome_of_keeps (push_keeps _ _) (st.there a m))
  have hs : (h.objs.size == sysModules) = false := by
    have : h.objs.size ≠ sysModules := fun q => by
      obtain ⟨o, e⟩ := Option.isSome_iff_exists.mp sysm
      have := st.keep _ o e
      rw [← q, hI] at this; cases this
    simpa using this
  exact Post.addObj st P₁ hI (.head _) (notin_mu st.sto hI) (.dict (Heap.DictOfH.new h) hs (fun _ m => nomatch m) rfl fun i y e e1 _ => by simp at e1)

noncomputable def emptyD : DE := fun _ σ => some (.loc σ.length, σ ++ [some (.dict [])])
theorem SE_emptyDict (ok : C.Ok) {pos : Pos} : SE C dp sc (.Dict [] [] pos) emptyD := by
  intro A env s X μ ρ σ u σ' Q E he hA hs hd hQ
  cases hd
  refine wpAny_Dict_empty (hQ _ _ s.toks _ _ (new_dict hs ok.sysm) ⟨_, rfl, ?_⟩)
  rw [← hs.sto.len]; simp

-- a display of pairs -------------------------------------------------------------------------------------------------------
abbrev DP := Rho → Sto → Option (List (V × V) × Sto)
noncomputable def nilP : DP := fun _ σ => some ([], σ)
noncomputable def consP (dk dv : DE) (ds : DP) : DP := fun ρ σ => match dk ρ σ with
  | none => none
  | some (k, σ₁) => match dv ρ σ₁ with
    | none => none
    | some (v, σ₂) => match ds ρ σ₂ with
      | none => none
      | some (r, σ₃) => some ((k, v) :: r, σ₃)
noncomputable def storeP (n : Nat) : List (V × V) → Sto → Option Sto
  | [], σ => some σ
  | (.tup ks, v) :: r, σ => match nthS σ n with
    | some (.dict es) => match keyOf ks with
      | some k => match v.isLoc with
        | true => none
        | false => match Nat.ble es.length 100000 with
          | true => storeP n r (setS σ n (.dict (dput es k v)))
          | false => none
      | none => none
    | _ => none
  | _ :: _, _ => none
noncomputable def dictD (ds : DP) : DE := fun ρ σ => match ds ρ (σ ++ [some (.dict [])]) with
  | none => none
  | some (kvs, σ₁) => match storeP σ.length kvs σ₁ with
    | none => none
    | some σ₂ => freezeR (.loc σ.length) σ₂

noncomputable def PairsR (C : Cx) (h : Heap) (X μ : List Addr) (ps : List (Value × Value)) (us : List (V × V)) : Prop := RVs C h X μ (ps.map (·.1)) (us.map (·.1)) ∧ RVs C h X μ (ps.map (·.2)) (us.map (·.2))
noncomputable def pairTrees (pos : Pos) (kvs : List (Expr × Expr)) (env : Env) : List (Sem Value × Sem Value) := kvs.map fun p => (eval p.1 env, do let x ← eval p.2 env; standAt pos; pure x)
noncomputable def SPs (C : Cx) (dp : Nat) (sc : Scope) (pos : Pos) (kvs : List (Expr × Expr)) (d : DP) : Prop :=
  ∀ (A : Around) (env : Env) (s : Shared) (X μ : List Addr) (ρ : Rho) (σ : Sto) (us : List (V × V)) (σ' : Sto) (Q : List (Value × Value) → Shared → Prop) (E : Value → Shared → Prop),
    env.scope = sc → ARoom A dp → St C env s.heap X μ ρ σ → d ρ σ = some (us, σ') →
    (∀ vs h' tk X' μ', Post C env ρ s.heap X μ σ h' X' μ' σ' → PairsR C h' X' μ' vs us → Q vs { s with heap := h', toks := tk }) →
    wpAny (model C.prog C.w) A (evalPairs (pairTrees pos kvs env)) Q E s

theorem SPs_nil {pos : Pos} : SPs C dp sc pos [] nilP := by
  intro A env s X μ ρ σ us σ' Q E he hA hs hd hQ
  cases hd
  exact evalPairs_nil (hQ [] s.heap s.toks X μ (Post.refl hs) ⟨.nil, .nil⟩)
theorem SPs_cons {pos : Pos} {k v : Expr} {r : List (Expr × Expr)} {dk dv : DE} {ds : DP} (hk : SE C dp sc k dk) (hv : SE C dp sc v dv) (hr : SPs C dp sc pos r ds) : SPs C dp sc pos ((k, v) :: r) (consP dk dv ds) := by
  intro A env s X μ ρ σ us σ' Q E he hA hs hd hQ
  unfold consP at hd
  split at hd
  · cases hd
  · rename_i uk σ₁ h1
    split at hd
    · cases hd
    · rename_i uv σ₂ h2
      split at hd
      · cases hd
      · rename_i ur σ₃ h3
        cases hd
        refine evalPairs_cons (k := eval k env) (v := do let x ← eval v env; standAt pos; pure x) (rest := pairTrees pos r env) (hk A env s X μ ρ σ uk σ₁ _ E he hA hs h1 fun kv h' tk X' μ' P R => ?_)
        refine wpAny_bind (hv A env { s with heap := h', toks := tk } X' μ' ρ σ₁ uv σ₂ _ E he hA P.st h2 fun vv h₂ tk₂ X₂ μ₂ P₂ R₂ => wpAny_bind (wpAny_standAt (wpAny_pure ?_)))
        refine hr A env { s with heap := h₂, toks := tk₂ } X₂ μ₂ ρ σ₂ ur _ _ E he hA P₂.st h3 fun vs h₃ tk₃ X₃ μ₃ P₃ R₃ => ?_
        exact hQ _ h₃ tk₃ X₃ μ₃ ((P.trans P₂).trans P₃) ⟨.cons (P₃.rv P₂.st (P₂.rv P.st R)) R₃.1, .cons (P₃.rv P₂.st R₂) R₃.2⟩

theorem wp_storeP {A : Around} {env : Env} (hA : ARoom A dp) {E : Value → Shared → Prop} {n : Nat} {a : Addr} {ρ : Rho} : ∀ (vs : List (Value × Value)) (us : List (V × V)) (s : Shared) (X μ : List Addr) (σ σ' : Sto) (Q : PUnit → Shared → Prop),
    St C env s.heap X μ ρ σ → μ[n]? = some a → PairsR C s.heap X μ vs us → storeP n us σ = some σ' → (∀ h' tk, Post C env ρ s.heap X μ σ h' X μ σ' → Q PUnit.unit { s with heap := h', toks := tk }) →
    wpAny (model C.prog C.w) A (forIn vs PUnit.unit fun (x : Value × Value) (_ : PUnit) => (do dictSet a x.1 x.2; pure (ForInStep.yield PUnit.unit) : Sem (ForInStep PUnit))) Q E s
  | [], [], s, X, μ, σ, σ', Q, st, hμ, _, hd, hQ => by
    cases hd
    rw [List.forIn_nil]
    exact wpAny_pure (hQ s.heap s.toks (Post.refl st))
  | [], _ :: _, s, X, μ, σ, σ', Q, st, hμ, r, hd, hQ => by have := r.1.1; simp at this
  | _ :: _, [], s, X, μ, σ, σ', Q, st, hμ, r, hd, hQ => by have := r.1.1; simp at this
  | (kv, vv) :: vs, (uk, uv) :: us, s, X, μ, σ, σ', Q, st, hμ, r, hd, hQ => by
    cases uk with
    | tup ks =>
      simp only [storeP] at hd
      split at hd
      · rename_i es hn
        split at hd
        · rename_i k hk
          split at hd
          · cases hd
          · rename_i hloc
            split at hd
            · rename_i hle
              rw [List.forIn_cons]
              have r1 : RV C.prog C.w s.heap X μ kv (.tup ks) := r.1.2 0 kv _ rfl rfl
              have r2 : RV C.prog C.w s.heap X μ vv uv := r.2.2 0 vv _ rfl rfl
              refine wpAny_bind (wpAny_bind (wp_dictSet hA st hμ (nthS_eq _ _ _ hn) r1 hk r2 hloc hle fun h' tk P => wpAny_pure ?_))
              refine wp_storeP hA vs us { s with heap := h', toks := tk } X μ _ σ' Q P.st hμ ⟨⟨?_, fun i v u e e' => ?_⟩, ⟨?_, fun i v u e e' => ?_⟩⟩ hd fun h₂ tk₂ P₂ => hQ h₂ tk₂ (P.trans P₂)
              · have := r.1.1; simpa using this
              · exact P.rv st (r.1.2 (i + 1) v u (by simpa using e) (by simpa using e'))
              · have := r.2.1; simpa using this
              · exact P.rv st (r.2.2 (i + 1) v u (by simpa using e) (by simpa using e'))
            · cases hd
        · cases hd
      · cases hd
    | _ => cases hd

theorem SE_dict (ok : C.Ok) {keys : List (Option Expr)} {values : List Expr} {pos : Pos} {kvs : List (Expr × Expr)} {ds : DP} (hp : SPs C dp sc pos kvs ds)
    (hshape : ∀ env, (evalEachOpt keys env).zip ((evalEach values env).map fun v => do let x ← v; standAt pos; pure x) = (pairTrees pos kvs env).map fun p => (some p.1, p.2)) (h0 : kvs ≠ []) (hlen : kvs.length ≤ 15) :
    SE C dp sc (.Dict keys values pos) (dictD ds) := by
  intro A env s X μ ρ σ u σ' Q E he hA hs hd hQ
  unfold dictD at hd
  split at hd
  · cases hd
  · rename_i us σ₁ h1
    split at hd
    · cases hd
    · rename_i σ₂ h2
      rw [arm_eval_Dict, hshape, dictDisplay_pairs _ (by unfold pairTrees; simpa using h0) (by unfold pairTrees; rw [List.length_map]; omega)]
      refine wpAny_bind (wpAny_standAt (wpAny_bind ?_))
      unfold subDict
      refine wpAny_bind (wpAny_alloc (wpAny_bind (wpAny_holding ?_)))
      rw [if_pos (by unfold pairTrees; rw [List.length_map]; exact hlen)]
      have P₀ := new_dict hs ok.sysm
      have hμ : (μ ++ [s.heap.objs.size])[σ.length]? = some s.heap.objs.size := by rw [← hs.sto.len]; simp
      refine wpAny_bind (hp A env { s with heap := s.heap.push { cls := .type "dict", data := .dict #[] } } _ _ ρ _ us σ₁ _ E he hA P₀.st h1 fun vs h' tk X' μ' P R => wpAny_holding ?_)
      obtain ⟨ν, e, _⟩ := P.ext
      have hμ' : μ'[σ.length]? = some s.heap.objs.size := by
        rw [e, List.getElem?_append_left (List.getElem?_eq_some_iff.mp hμ).1]; exact hμ
      refine wpAny_bind (wp_storeP hA vs us { s with heap := h', toks := tk } X' μ' σ₁ σ₂ _ P.st hμ' R h2 fun h₂ tk₂ P₂ => wpAny_pure (wpAny_pure ?_))
      exact freeze_post hs ((P₀.trans P).trans P₂) (v := .ref s.heap.objs.size) (u := .loc σ.length) ⟨_, rfl, hμ'⟩ hd fun X'' P'' R'' => wpAny_pure (hQ _ h₂ tk₂ X'' μ' P'' R'')
end
end Mine
end

section
open Sem (wp)
set_option autoImplicit false
set_option Elab.async false
set_option maxRecDepth 100000
namespace Mine

section
variable {prog : Program} {w : World} {K : Type} [DecidableEq K] {knd : HeapKind prog w K} {A : Around} {E : Value → Shared → Prop} {s : Shared}

theorem same_heap {nm : String} {a b : Addr} {ka kb : List (K × Addr × Value)} {Q : Bool → Shared → Prop} (hu : knd.room A) (ha : (a == sysModules) = false) (hb : (b == sysModules) = false)
    (da : s.heap.DictOfH knd a ka) (db : s.heap.DictOfH knd b kb) (hlen : ka.length = kb.length)
    (hits : ∀ (i : Nat) (k : K) (p : Addr × Value), ka[i]? = some (k, p) → ∃ q, atKey kb k = some q ∧ SeqAt.EqAt A s p.2 q.2 true) (h : Q true s) :
    wpAny (model prog w) A (Builtin.Dict.samePairs nm a b) Q E s := by
  obtain ⟨oa, es, ep, hoa, _, hda, hea, hia, _⟩ := da
  obtain ⟨ob, es', ep', hob, _, hdb, heb, hib, hnb⟩ := db
  have hla : es.size = ka.length := size_of_entries hea
  have hlb : es'.size = kb.length := size_of_entries heb
  unfold Builtin.Dict.samePairs Builtin.Dict.showsAll
  rw [if_neg (show ¬ (a == sysModules) = true by rw [ha]; exact Bool.false_ne_true), if_neg (show ¬ (b == sysModules) = true by rw [hb]; exact Bool.false_ne_true)]
  refine wpAny_bind (wpAny_pure (wpAny_bind (wpAny_pure ?_)))
  refine wpAny_bind (wpAny_dictEntries hoa hda ?_)
  dsimp only
  refine wpAny_bind (wpAny_dictEntries hob hdb ?_)
  have hsz : es.size = es'.size := by rw [hla, hlb, hlen]
  rw [if_neg (by rw [hsz]; simp)]
  refine wpAny_bind (wpAny_dictEpoch hoa hda ?_)
  refine wpAny_bind ?_
  rw [Std.Legacy.Range.forIn_eq_forIn_range']
  simp only [Std.Legacy.Range.size, Nat.sub_zero, Nat.add_sub_cancel, Nat.div_one]
  refine wpAny_forIn_list _ (fun rest q s' => s' = s ∧ q = (none, ()) ∧ ∃ i, rest = List.range' i (es.size - i) ∧ i ≤ es.size) _ ?_ ?_ _ _ ⟨rfl, rfl, 0, by simp, Nat.zero_le _⟩
  · rintro x rest q s' ⟨rfl, rfl, i, hr, hi⟩
    have hlt : i < es.size := by
      rcases Nat.lt_or_ge i es.size with h | h
      · exact h
      · rw [Nat.sub_eq_zero_of_le h] at hr; simp at hr
    obtain ⟨rfl, hrest⟩ : x = i ∧ rest = List.range' (i + 1) (es.size - (i + 1)) := by
      have e : es.size - i = (es.size - (i + 1)) + 1 := by omega
      rw [e, List.range'_succ] at hr
      injection hr with h1 h2
      exact ⟨h1, h2⟩
    refine wpAny_bind (wpAny_dictEntries hoa hda ?_)
    have hlt' : x < ka.length := by rw [← hla]; exact hlt
    obtain ⟨k, p, hkv⟩ : ∃ k p, ka[x]? = some (k, p) := ⟨_, _, List.getElem?_eq_getElem hlt'⟩
    have hex : es[x]? = some (entryOfKey knd (k, p)) := by rw [entry_at hea x, hkv]; rfl
    rw [hex]
    have hkey : knd.is s'.heap k p.1 := hia _ (List.mem_of_getElem? hkv)
    obtain ⟨q, hq, heq⟩ := hits x k p hkv
    show wpAny _ _ (holding [Value.ref p.1, p.2] _ >>= _) _ _ _
    refine wpAny_bind (wpAny_holding (wpAny_bind (wpAny_dictFind_heap hu hkey hob hdb heb hib hnb (fun hno => ?_) fun j p' hj => ?_)))
    · rw [atKey_none_of_get hno] at hq
      cases hq
    · have hp' := atKey_of_get hnb hj
      rw [hq] at hp'
      cases hp'
      refine wpAny_bind (wpAny_dictEntries hob hdb ?_)
      rw [entry_at heb j, hj]
      show wpAny _ _ (holding [q.2] (eqBool p.2 q.2)) _ _ _
      refine wpAny_holding (heq prog w _ _ ?_)
      show wpAny _ _ (if (!true) = true then _ else _) _ _ _
      rw [if_neg (by decide)]
      refine wpAny_bind (wpAny_dictEpoch hoa hda ?_)
      rw [if_neg (by simp)]
      exact wpAny_pure ⟨rfl, rfl, x + 1, hrest, hlt⟩
  · rintro q s' ⟨rfl, rfl, i, hr, hi⟩
    exact wpAny_pure h

theorem ne_heap {a b : Addr} {ka kb : List (K × Addr × Value)} {Q : Value → Shared → Prop} (hu : knd.room A.in1) (hc : A.units < cLine) (ha : (a == sysModules) = false) (hb : (b == sysModules) = false)
    (da : s.heap.DictOfH knd a ka) (db : s.heap.DictOfH knd b kb) (hlen : ka.length = kb.length)
    (hits : ∀ (i : Nat) (k : K) (p : Addr × Value), ka[i]? = some (k, p) → ∃ q, atKey kb k = some q ∧ SeqAt.EqAt A.in1 s p.2 q.2 true) (h : Q (.bool false) s) :
    wpAny (model prog w) A (compareOp .NotEq (.ref a) (.ref b)) Q E s := by
  refine wpAny_richCompare_same_room (op := .NotEq) da.typeIs db.typeIs PySem.F.slot_dict_ne (wpAny_call_entry PySem.F.slot_dict_ne da.typeIs PySem.F.entry_dict_ne ?_ (PySem.F.args_dict_ne_2 _ _)) hc
  show wpAny _ _ (Builtin.Dict.dictSlotArgs "__ne__" ⟨[.ref a, .ref b], []⟩ >>= _) _ _ s
  refine wpAny_bind ?_
  unfold Builtin.Dict.dictSlotArgs
  refine wpAny_bind (wpAny_notOrdered_dict da.typeIs ?_)
  show wpAny _ _ (pure (Value.ref a, Value.ref b)) _ _ s
  refine wpAny_pure ?_
  refine wpAny_bind (wpAny_isInstance (T := "dict") db.typeIs PySem.F.sub_dict_dict ?_)
  simp only [Bool.not_true, Bool.false_eq_true, if_false]
  refine wpAny_bind (wpAny_pure (wpAny_bind (wpAny_pure ?_)))
  refine wpAny_bind (same_heap (A := A.in1) hu ha hb da db hlen hits ?_)
  refine wpAny_pure ⟨_, rfl, ?_, ?_⟩
  · exact fun x => nomatch x
  · simpa using h

theorem map_eraseIdx {α β : Type} (f : α → β) : ∀ (l : List α) (j : Nat), (l.eraseIdx j).map f = (l.map f).eraseIdx j
  | [], j => by simp
  | x :: l, 0 => by simp
  | x :: l, j + 1 => by simp [map_eraseIdx f l j]
theorem eraseIdx_nodup {K : Type} {xs : List (K × Addr × Value)} (hn : (xs.map (·.1)).Nodup) (j : Nat) : ((xs.eraseIdx j).map (·.1)).Nodup := by
  rw [map_eraseIdx]
  exact hn.sublist (List.eraseIdx_sublist _ _)

theorem takeOut_heap {d a : Addr} {xs : List (K × Addr × Value)} {k : K} {j : Nat} {p : Addr × Value} {Q : Option DictEntry → Shared → Prop} (hu : knd.room A) (hkey : knd.is s.heap k a) (hm : s.heap.DictOfH knd d xs) (hj : xs[j]? = some (k, p)) (hsz : xs.length ≤ sizeLine)
    (hQ : ∀ h' tk, h'.DictOfH knd d (xs.eraseIdx j) → Heap.SameBut d s.heap h' → Q (some (entryOfKey knd (k, p))) { s with heap := h', toks := tk }) :
    wpAny (model prog w) A (Builtin.Dict.takeOut d (.ref a)) Q E s := by
  obtain ⟨o, es, ep, ho, hc, hd, he, his, hn⟩ := hm
  have hes : es.size ≤ sizeLine := by rw [size_of_entries he]; exact hsz
  unfold Builtin.Dict.takeOut
  refine wpAny_holding ?_
  refine wpAny_bind (knd.pyHash hu hkey ?_)
  refine wpAny_bind (wpAny_dictFind_heap (s := { s with toks := s.toks + knd.draws k }) hu hkey ho hd he his hn (fun hno => absurd hj (hno j p)) fun j' p' hj' => ?_)
  obtain rfl := idxH_unique hn hj hj'
  rw [hj] at hj'
  cases hj'
  refine wpAny_bind (wpAny_dictEntries (s := { s with toks := s.toks + knd.draws k }) ho hd ?_)
  rw [entry_at he j, hj]
  refine wpAny_bind (wpAny_updateDictKeys (hz := hes) (s := { s with toks := s.toks + knd.draws k }) ho hd (wpAny_pure (hQ _ _ ⟨_, _, ep + 1, Heap.get?_update_self _ ho (Obj.isFreed_of_dict (Obj.data_mapDictKeys hd _)), hc.mapDictKeys _, Obj.data_mapDictKeys hd _, ?_, ?_, eraseIdx_nodup hn j⟩ (Heap.SameBut.update ..))))
  · obtain ⟨l⟩ := es
    have he' : l = xs.map (entryOfKey knd) := he
    subst he'
    simp [map_eraseIdx]
  · intro x hx
    exact knd.keeps (his x (List.mem_of_mem_eraseIdx hx)) ho hd (Heap.SameBut.update ..)

theorem pop_heap {d a : Addr} {xs : List (K × Addr × Value)} {k : K} {j : Nat} {p : Addr × Value} {dflt : Value} {Q : Value → Shared → Prop} (hu : knd.room A.in1) (hkey : knd.is s.heap k a) (hm : s.heap.DictOfH knd d xs) (hj : xs[j]? = some (k, p)) (hsz : xs.length ≤ sizeLine)
    (hQ : ∀ h' tk, h'.DictOfH knd d (xs.eraseIdx j) → Heap.SameBut d s.heap h' → Q p.2 { s with heap := h', toks := tk }) :
    wpAny (model prog w) A (call (.builtin "dict.pop") [.ref d, .ref a, dflt]) Q E s := by
  obtain ⟨o, es, ep, ho, hc, hd, he, his, hn⟩ := id hm
  refine wpAny_call_entry F.slot_dict_pop hm.typeIs F.entry_dict_pop ?_ (F.args_dict_pop_3 _ _ _)
  unfold Builtin.«dict.pop»
  refine wpAny_bind ?_
  unfold Builtin.Dict.keyAndDefault
  refine wpAny_bind (wpAny_notOrdered_dict hm.typeIs ?_)
  show wpAny _ _ (pure (d, Value.ref a, some dflt)) _ _ s
  refine wpAny_pure ?_
  have hpart : (keyPart (Value.ref a)).isSome = false := rfl
  simp only [hpart, Bool.false_eq_true, if_false]
  refine wpAny_bind (wpAny_dictEntries ho hd ?_)
  have hne : es.isEmpty = false := by
    have : 0 < es.size := by rw [size_of_entries he]; exact Nat.lt_of_le_of_lt (Nat.zero_le _) (List.getElem?_eq_some_iff.mp hj).1
    cases q : es.isEmpty with
    | false => rfl
    | true => rw [Array.isEmpty_iff] at q; subst q; simp at this
  rw [hne]
  refine wpAny_bind (wpAny_pure ?_)
  simp only [Bool.false_eq_true, if_false]
  refine wpAny_bind (takeOut_heap (A := A.in1) hu hkey hm hj hsz fun h' tk hm' hs' => ?_)
  simp only [Option.isNone_some, Bool.false_eq_true, if_false]
  exact wpAny_bind (wpAny_letGo (wpAny_pure ⟨p.2, rfl, hQ h' tk hm' hs'⟩))
end
end Mine
end

section
open Sem (wp)
set_option autoImplicit false
set_option Elab.async false
set_option maxRecDepth 100000
namespace Mine

noncomputable def allHit : List (List Int × V) → List (List Int × V) → Bool
  | [], _ => true
  | (k, u) :: r, es => match dget es k with
    | some u' => match eqB u u' with
      | some true => allHit r es
      | _ => false
    | none => false
noncomputable def neDV : V → V → Sto → Option V
  | .dct a, .dct b, _ => match Nat.beq a.length b.length with
    | true => match allHit a b with
      | true => some (.bool false)
      | false => none
    | false => none
  | _, _, _ => none
theorem allHit_get : ∀ {as bs : List (List Int × V)}, allHit as bs = true → ∀ (i : Nat) (k : List Int) (u : V), as[i]? = some (k, u) → ∃ u', dget bs k = some u' ∧ eqB u u' = some true
  | [], bs, _, i, k, u, e => by simp at e
  | (k₁, u₁) :: r, bs, h, i, k, u, e => by
    simp only [allHit] at h
    split at h
    · rename_i u' hu
      split at h
      · rename_i hq
        cases i with
        | zero =>
          simp only [List.getElem?_cons_zero, Option.some.injEq, Prod.mk.injEq] at e
          obtain ⟨rfl, rfl⟩ := e
          exact ⟨u', hu, hq⟩
        | succ i => exact allHit_get h i k u (by simpa using e)
      · cases h
    · cases h

noncomputable def dremove : List (List Int × V) → List Int → List (List Int × V)
  | [], _ => []
  | (k, u) :: r, key => match keyEq k key with
    | true => r
    | false => (k, u) :: dremove r key
theorem dremove_eq : ∀ {es : List (List Int × V)} {j : Nat} {k : List Int}, (es.map (·.1)).Nodup → (es.map (·.1))[j]? = some k → dremove es k = es.eraseIdx j
  | [], j, k, _, h => by simp at h
  | (k₁, u) :: r, 0, k, _, h => by
    simp only [List.map_cons, List.getElem?_cons_zero, Option.some.injEq] at h
    subst h
    simp [dremove, keyEq_iff]
  | (k₁, u) :: r, j + 1, k, hn, h => by
    simp only [List.map_cons, List.getElem?_cons_succ, List.nodup_cons] at h hn
    have hne : k₁ ≠ k := fun q => hn.1 (q ▸ List.mem_of_getElem? h)
    simp only [dremove, keyEq_iff, hne, decide_false, List.eraseIdx_cons_succ]
    rw [dremove_eq hn.2 h]
theorem dget_idx : ∀ {es : List (List Int × V)} {k : List Int} {r : V}, dget es k = some r → ∃ i : Nat, (es.map (·.1))[i]? = some k
  | [], k, r, h => by cases h
  | (k₁, u) :: es, k, r, h => by
    simp only [dget, keyEq_iff] at h
    by_cases c : k₁ = k
    · exact ⟨0, by simp [c]⟩
    · simp only [c, decide_false] at h
      obtain ⟨i, hi⟩ := dget_idx h
      exact ⟨i + 1, by simpa using hi⟩
noncomputable def popS (d dk : DE) : DS := fun ρ σ => match d ρ σ with
  | some (.loc n, σ₁) => match nthS σ₁ n with
    | some (.dict _) => match dk ρ σ₁ with
      | some (.tup ks, σ₂) => match nthS σ₂ n with
        | some (.dict es) => match keyOf ks with
          | some k => match dget es k with
            | some _ => match Nat.ble es.length 100000 with
              | true => some (none, ρ, setS σ₂ n (.dict (dremove es k)))
              | false => none
            | none => none
          | none => none
        | _ => none
      | _ => none
    | _ => none
  | _ => none

section
variable {C : Cx} {dp : Nat} {sc : Scope}

theorem op_neD : Op2 C (compareOp .NotEq) neDV := by
  intro A s X μ σ v w u x r Q E H hv hw hf hQ
  unfold neDV at hf
  split at hf
  · rename_i as bs
    split at hf
    · rename_i hl
      split at hf
      · rename_i hall
        cases hf
        cases hv with
        | @dct a ya _ hda ha hsa hya hka hia =>
          cases hw with
          | @dct b yb _ hdb hb hsb hyb hkb hib =>
            have len : ya.length = yb.length := by
              have e1 := congrArg List.length hka
              have e2 := congrArg List.length hkb
              have e3 := Nat.eq_of_beq_eq_true hl
              simp at e1 e2
              omega
            refine ne_heap (knd := TK C.prog C.w) (show A.in1.units < cLine by have := H.units; show A.units + 1 < cLine; omega) (by have := H.units; omega) hsa hsb hda hdb len (fun i k p hi => ?_) (hQ _ s.heap s.toks (fun _ _ e => e) .mkBool)
            have hlt : i < as.length := by
              have := congrArg List.length hka
              simp at this
              rw [← this]; exact (List.getElem?_eq_some_iff.mp hi).1
            have hai : as[i]? = some as[i] := List.getElem?_eq_getElem hlt
            have hk : as[i].1 = k := by
              have := congrArg (·[i]?) hka
              simp only [List.getElem?_map, hi, hai, Option.map_some, Option.some.injEq] at this
              exact this.symm
            obtain ⟨u', g1, g2⟩ := allHit_get hall i k as[i].2 (by rw [hai, ← hk])
            obtain ⟨j, y, e, q1, q2, q3, q4⟩ := dget_at hkb g1
            refine ⟨y.2, q4, ?_⟩
            have r1 := hia i (k, p) as[i] hi hai
            have r2 := hib j y e q1 q2
            rw [q3] at r2
            unfold eqB at g2
            split at g2
            · cases g2
            · rename_i d hd
              split at g2
              · cases g2
              · rename_i d' hd'
                obtain ⟨as', R1, S1⟩ := eq_data (μ := μ) (by decide) hd r1.toRV
                obtain ⟨bs', R2, S2⟩ := eq_data (μ := μ) (by decide) hd' r2.toRV
                have := SeqAt.eqAt_reads d d' A.in1 s _ _ as' bs' R1 R2 (SeqAt.canLay_of_shaped S1) (SeqAt.canLay_of_shaped S2) (SeqAt.room_of_shaped S1 (by have := H.units; show A.units + 1 + 64 < cLine; omega))
                rw [Option.some.inj g2] at this
                exact this
      · cases hf
    · cases hf
  · cases hf

theorem S1_pop {o e : Expr} {kk : Nat} {cp : Pos} {apos pos cpos : Pos} {d dk : DE} (ho : SE C dp sc o d) (hv : SE C dp sc e dk) (hbase : ∀ env, attributeBase o (Str.ofString "pop") env (eval o env) = eval o env) (hline : (apos.endLine == cpos.line) = true)
    (htrees : ∀ env, backTo cpos (starEach [e, .Constant .none kk cp] env) = [(false, eval e env), (false, eval (.Constant .none kk cp) env)]) (hk : (sc.kind == .module) = false)
    (hs : ∀ env, swapsWith (.Call (.Attribute o (Str.ofString "pop") apos) [e, .Constant .none kk cp] [] cpos) none pos.line env = pure false) :
    S1 C dp sc (.Expr (.Call (.Attribute o (Str.ofString "pop") apos) [e, .Constant .none kk cp] [] cpos) pos) (popS d dk) := by
  intro A env s X μ ρ σ r ρ' σ' Q E he hA st hd hQ
  unfold popS at hd
  split at hd
  · rename_i n σ₁ h1
    split at hd
    · rename_i es₀ hn₀
      split at hd
      · rename_i ks σ₂ h2
        split at hd
        · rename_i es hn
          split at hd
          · rename_i k hkk
            split at hd
            · rename_i u₀ hget
              split at hd
              · rename_i hle
                cases hd
                refine wpAny_Expr_any ?_ (by unfold interactive; rw [he, hk]; rfl) (hs env)
                refine wpAny_Call_method (T := "dict") (id := "dict.pop") (hbase env) (by rw [htrees]; rfl) hline F.plainAttrs_dict F.slot_dict_pop F.type_dict_pop ?_
                refine ho A env s X μ ρ σ _ _ _ E he hA st h1 fun ov h' tk X' μ' P R => ?_
                obtain ⟨a, rfl, hμ⟩ := id R
                have hob := P.st.sto.obj n a _ hμ (nthS_eq _ _ _ hn₀)
                cases hob with
                | @dict ys₀ _ hd₀ hs₀ hy₀ hk₀ hi₀ =>
                  refine ⟨hd₀.typeIs, fun b e => ?_, ?_⟩
                  · cases e
                    obtain ⟨ob, _, _, hob, hc, _⟩ := hd₀
                    exact ⟨ob, hob, hc.2.1⟩
                  · rw [htrees]
                    refine Calls.callWith_builtin rfl (Calls.evalArgs_plain (Calls.spliced_cons (hv A env { s with heap := h', toks := tk } X' μ' ρ σ₁ _ _ _ E he hA P.st h2 fun w h₂ tk₂ X₂ μ₂ P₂ R₂ => Calls.spliced_cons (wpAny_Constant_none (Calls.spliced_nil ?_)))))
                    have R' := P₂.rv P.st R
                    obtain ⟨a', e', hμ'⟩ := R'
                    cases e'
                    have hσ := nthS_eq _ _ _ hn
                    have hX := P₂.st.sto.inX a ⟨n, _, hμ', hσ⟩
                    obtain ⟨ka, kvs, rfl, htup, hka, hkr⟩ := R₂.tup
                    have hob := P₂.st.sto.obj n a _ hμ' hσ
                    cases hob with
                    | @dict ys _ hdo hsm hy hkeys hi =>
                      obtain ⟨j, hj⟩ := dget_idx hget
                      have hlen : ys.length = es.length := by have := congrArg List.length hkeys; simpa using this
                      obtain ⟨_, _, _, _, _, _, _, _, hnd⟩ := id hdo
                      have hyj : ∃ p, ys[j]? = some (k, p) := by
                        rw [← hkeys, List.getElem?_map] at hj
                        cases hq : ys[j]? with
                        | none => rw [hq] at hj; cases hj
                        | some y =>
                          rw [hq] at hj
                          cases hj
                          exact ⟨y.2, rfl⟩
                      obtain ⟨p, hyj⟩ := hyj
                      refine pop_heap (knd := TK C.prog C.w) (s := { s with heap := h₂, toks := tk₂ }) (show A.in1.units < cLine by have := hA.2.2; show A.units + 1 < cLine; omega) (isKey htup hkk hkr) hdo hyj (by rw [hlen]; exact le_of_ble hle) fun h₃ tk₃ hd₃ hs₃ => ?_
                      have stay : Stay h₂ X₂ h₃ X₂ := fun b q nb e => ⟨(hs₃.2 b (fun e' => nb (e' ▸ hX))).trans e, nb⟩
                      have P₃ : Post C env ρ h₂ X₂ μ₂ σ₂ h₃ X₂ μ₂ (setS σ₂ n (.dict (dremove es k))) := by
                        refine Post.mut P₂.st hμ' hσ hs₃ (by obtain ⟨o, _, _, ho, _⟩ := hd₃; rw [ho]; rfl) (.dict hd₃ hsm (fun y m => hy y (List.mem_of_mem_eraseIdx m)) ?_ ?_)
                        · rw [dremove_eq (hkeys ▸ hnd) hj, map_eraseIdx, map_eraseIdx, hkeys]
                        · intro i y e e1 e2
                          rw [dremove_eq (hkeys ▸ hnd) hj] at e2
                          rw [List.getElem?_eraseIdx] at e1 e2
                          split at e1
                          · rename_i c
                            rw [if_pos c] at e2
                            exact (hi i y e e1 e2).stay stay
                          · rename_i c
                            rw [if_neg c] at e2
                            exact (hi (i + 1) y e e1 e2).stay stay
                      exact hQ _ h₃ tk₃ X₂ μ₂ (FP.of_post ((P.trans P₂).trans P₃)) rfl
              · cases hd
            · cases hd
          · cases hd
        · cases hd
      · cases hd
    · cases hd
  · cases hd

-- methods of a list that ask -----------------------------------------------------------------------------------------------
noncomputable def countI (k : Int) : List Int → Nat
  | [] => 0
  | x :: r => match Int.decEq x k with
    | .isTrue _ => countI k r + 1
    | .isFalse _ => countI k r
noncomputable def countV : V → V → Sto → Option V
  | .lst xs, .int k, _ => match intsOf xs with
    | some ns => some (.int (countI k ns : Nat))
    | none => none
  | _, _, _ => none
noncomputable def idxL (x : V) : List V → Nat → Option Nat
  | [], _ => none
  | y :: r, n => match eqB y x with
    | some true => some n
    | some false => idxL x r (n + 1)
    | none => none
noncomputable def indexV : V → V → Sto → Option V
  | .lst xs, x, _ => match Nat.ble xs.length 100000 with
    | true => match idxL x xs 0 with
      | some n => match toPyL (toPy 6) xs with
        | some _ => some (.int (n : Nat))
        | none => none
      | none => none
    | false => none
  | _, _, _ => none

theorem method1 {o e : Expr} {name : Str} {id : String} {apos pos : Pos} {d dv : DE} {f : V → V → Sto → Option V} (ho : SE C dp sc o d) (hv : SE C dp sc e dv) (hbase : ∀ env, attributeBase o name env (eval o env) = eval o env) (hline : (apos.endLine == pos.line) = true)
    (htrees : ∀ env, backTo pos (starEach [e] env) = [(false, eval e env)]) (slot : Slot "list" name id) (hty : typeOf (.builtin id) = pure (.type "method_descriptor"))
    (hop : Op2 C (fun a b => call (.builtin id) [a, b]) f) (hlst : ∀ a b σ r, f a b σ = some r → ∃ xs, a = .lst xs) : SE C dp sc (.Call (.Attribute o name apos) [e] [] pos) (op2D f d dv) := by
  intro A env s X μ ρ σ u σ' Q E he hA hs hd hQ
  unfold op2D at hd
  split at hd
  · cases hd
  · rename_i a σ₁ h1
    split at hd
    · cases hd
    · rename_i b σ₂ h2
      split at hd
      · rename_i c h3
        cases hd
        obtain ⟨xs, rfl⟩ := hlst _ _ _ _ h3
        refine wpAny_Call_method (T := "list") (id := id) (hbase env) (by rw [htrees]; rfl) hline F.plainAttrs_list slot hty ?_
        refine ho A env s X μ ρ σ _ σ₁ _ E he hA hs h1 fun v h' tk X' μ' P R => ?_
        obtain ⟨l, vs, rfl, hl, ha, hr⟩ := R.lst
        refine ⟨hl.isList.typeIs, fun b e => ?_, ?_⟩
        · cases e
          obtain ⟨n, e⟩ := hl
          exact ⟨_, e, rfl⟩
        · rw [htrees]
          refine Calls.callWith_builtin rfl (Calls.evalArgs_plain (Calls.spliced_cons (hv A env { s with heap := h', toks := tk } X' μ' ρ σ₁ _ _ _ E he hA P.st h2 fun w h₂ tk₂ X₂ μ₂ P₂ R₂ => Calls.spliced_nil ?_)))
          exact hop A { s with heap := h₂, toks := tk₂ } X₂ μ₂ _ (.ref l) w _ _ _ _ E (P₂.st.hp hA) (P₂.rv P.st R) R₂ h3 fun v' h₃ tk₃ k R' => hQ v' h₃ tk₃ X₂ μ₂ ((P.trans P₂).trans (Post.of_keeps P₂.st k)) R'
      · cases hd
end
end Mine
end

section
open Sem (wp)
set_option autoImplicit false
set_option Elab.async false
set_option maxRecDepth 100000
namespace Mine

theorem countI_eq (k : Int) : ∀ ns : List Int, countI k ns = ns.count k
  | [] => rfl
  | x :: r => by
    simp only [countI]
    split
    · rename_i e _; subst e; simp [countI_eq x r]
    · rename_i e _; rw [countI_eq k r, List.count_cons, if_neg (by simpa using e)]; rfl

theorem idxL_facts {x : V} : ∀ {xs : List V} {n m : Nat}, idxL x xs n = some m → ∃ j y, m = n + j ∧ xs[j]? = some y ∧ eqB y x = some true ∧ ∀ (i : Nat) (z : V), i < j → xs[i]? = some z → eqB z x = some false
  | [], n, m, h => by cases h
  | y :: r, n, m, h => by
    simp only [idxL] at h
    split at h
    · rename_i hy
      cases h
      exact ⟨0, y, rfl, rfl, hy, fun i z hi => absurd hi (Nat.not_lt_zero _)⟩
    · rename_i hy
      obtain ⟨j, z, rfl, h1, h2, h3⟩ := idxL_facts h
      refine ⟨j + 1, z, by omega, by simpa using h1, h2, fun i u hi hu => ?_⟩
      cases i with
      | zero => simp only [List.getElem?_cons_zero, Option.some.injEq] at hu; subst hu; exact hy
      | succ i => exact h3 i u (by omega) (by simpa using hu)
    · cases h

section
variable {C : Cx}
theorem op_count : Op2 C (fun a b => call (.builtin "list.count") [a, b]) countV := by
  intro A s X μ σ v w u x r Q E H hv hw hf hQ
  unfold countV at hf
  split at hf
  · rename_i xs k
    obtain ⟨l, vs, rfl, hl, ha, hr⟩ := hv.lst
    obtain ⟨t, rfl⟩ := hw.int
    split at hf
    · rename_i ns hns
      cases hf
      refine count_list_ints hl.isList (intsAre hns hr) ?_
      rw [← countI_eq]
      exact hQ _ s.heap _ (fun _ _ e => e) .mkInt
    · cases hf
  · cases hf
theorem count_lst {a b : V} {σ : Sto} {r : V} (h : countV a b σ = some r) : ∃ xs, a = .lst xs := by
  unfold countV at h
  split at h
  · exact ⟨_, rfl⟩
  · cases h

theorem toPyL_get {f : V → Option PyData} : ∀ {xs : List V} {ds : List PyData}, toPyL f xs = some ds → ∀ (i : Nat) (x : V), xs[i]? = some x → ∃ d, f x = some d
  | [], ds, _, i, x, e => by simp at e
  | y :: r, ds, h, i, x, e => by
    simp only [toPyL] at h
    split at h
    · cases h
    · rename_i d hd
      split at h
      · cases h
      · rename_i ds' hds
        cases i with
        | zero => simp only [List.getElem?_cons_zero, Option.some.injEq] at e; subst e; exact ⟨d, hd⟩
        | succ i => exact toPyL_get hds i x (by simpa using e)

open Classical in
theorem op_index : Op2 C (fun a b => call (.builtin "list.index") [a, b]) indexV := by
  intro A s X μ σ v w u x r Q E H hv hw hf hQ
  unfold indexV at hf
  split at hf
  · rename_i xs
    obtain ⟨l, vs, rfl, hl, ha, hr⟩ := hv.lst
    split at hf
    · rename_i hle
      split at hf
      · rename_i m hm
        split at hf
        · rename_i ds hds
          cases hf
          obtain ⟨j, y, rfl, h1, h2, h3⟩ := idxL_facts hm
          rw [Nat.zero_add] at hQ
          -- what x is
          have hx : ∃ dx, toPy 6 x = some dx := by
            unfold eqB at h2
            split at h2
            · cases h2
            · split at h2
              · cases h2
              · exact ⟨_, by assumption⟩
          obtain ⟨dx, hdx⟩ := hx
          obtain ⟨bs, Rx, Sx⟩ := eq_data (by decide) hdx hw
          have room : A.in1.units + 64 < cLine := by have := H.units; show A.units + 1 + 64 < cLine; omega
          let e : Value → Bool := fun y => decide (∃ d as, Reads s.heap y d as ∧ SeqAt.shaped d = true ∧ PyData.eqv d dx = true)
          have reads : ∀ (i : Nat) (z : V) (vz : Value), vs[i]? = some vz → xs[i]? = some z → ∃ d as, toPy 6 z = some d ∧ Reads s.heap vz d as ∧ SeqAt.shaped d = true := fun i z vz q1 q2 => by
            obtain ⟨d, hd⟩ := toPyL_get hds i z q2
            obtain ⟨as, R, S⟩ := eq_data (μ := μ) (by decide) hd (hr.2 i vz z q1 q2).toRV
            exact ⟨d, as, hd, R, S⟩
          have eqs : ∀ (i : Nat) (z : V) (vz : Value), vs[i]? = some vz → xs[i]? = some z → ∃ d as, toPy 6 z = some d ∧ Reads s.heap vz d as ∧ e vz = PyData.eqv d dx ∧ SeqAt.shaped d = true := fun i z vz q1 q2 => by
            obtain ⟨d, as, hd, R, S⟩ := reads i z vz q1 q2
            refine ⟨d, as, hd, R, ?_, S⟩
            show decide _ = _
            by_cases c : PyData.eqv d dx = true
            · rw [c]
              exact decide_eq_true ⟨d, as, R, S, c⟩
            · rw [Bool.eq_false_iff.mpr c]
              refine decide_eq_false ?_
              rintro ⟨d', as', R', S', c'⟩
              have := SeqAt.Reads.unique d d' vz as as' (SeqAt.canLay_of_shaped S) R R'
              subst this
              exact c c'
          obtain ⟨n, ho⟩ := id hl
          have hlen := hr.1
          have hj : j < vs.toArray.size := by rw [List.size_toArray, hlen]; exact (List.getElem?_eq_some_iff.mp h1).1
          have hle' := Nat.le_of_ble_eq_true hle
          have hvz : ∀ i, (hi : i < vs.length) → ∃ z, xs[i]? = some z := fun i hi => ⟨_, List.getElem?_eq_getElem (hlen ▸ hi)⟩
          refine call_meets F.slot_list_index ⟨_, ho, rfl⟩ F.entry_list_index (F.args_list_index_2 _ _) (SeqAt.list_indexAt l vs.toArray n none #[] w e j hj (by rw [List.size_toArray] at hj; omega) ?_ ?_) ⟨ho, fun vy hy => ?_, hQ _ s.heap _ (fun _ _ e => e) .mkInt⟩
          · rw [List.size_toArray] at hj
            obtain ⟨d, as, hd, R, he, S⟩ := eqs j y vs[j] (List.getElem?_eq_getElem hj) h1
            have : vs.toArray[j] = vs[j] := by simp
            rw [this, he]
            unfold eqB at h2
            rw [hd, hdx] at h2
            exact Option.some.inj h2
          · intro m' hm' hlt
            rw [List.size_toArray] at hm'
            obtain ⟨z, hz⟩ := hvz m' hm'
            obtain ⟨d, as, hd, R, he, S⟩ := eqs m' z vs[m'] (List.getElem?_eq_getElem hm') hz
            have : vs.toArray[m'] = vs[m'] := by simp
            rw [this, he]
            have h2' := h3 m' z hlt hz
            unfold eqB at h2'
            rw [hd, hdx] at h2'
            exact Option.some.inj h2'
          · obtain ⟨i, hi, rfl⟩ := List.mem_iff_getElem.mp (show vy ∈ vs by simpa using hy)
            obtain ⟨z, hz⟩ := hvz i hi
            obtain ⟨d, as, hd, R, he, S⟩ := eqs i z vs[i] (List.getElem?_eq_getElem hi) hz
            rw [he]
            exact SeqAt.eqAt_reads d dx A.in1 s _ _ as bs R Rx (SeqAt.canLay_of_shaped S) (SeqAt.canLay_of_shaped Sx) (SeqAt.room_of_shaped S room)
        · cases hf
      · cases hf
    · cases hf
  · cases hf
theorem index_lst {a b : V} {σ : Sto} {r : V} (h : indexV a b σ = some r) : ∃ xs, a = .lst xs := by
  unfold indexV at h
  split at h
  · exact ⟨_, rfl⟩
  · cases h
end

/-- an object of the store, handed over for good -/
noncomputable def frzD (d : DE) : DE := fun ρ σ => match d ρ σ with
  | none => none
  | some (v, σ₁) => freezeR v σ₁
theorem SE_frz {C : Cx} {dp : Nat} {sc : Scope} {e : Expr} {d : DE} (h : SE C dp sc e d) : SE C dp sc e (frzD d) := by
  intro A env s X μ ρ σ u σ' Q E he hA hs hd hQ
  unfold frzD at hd
  split at hd
  · cases hd
  · rename_i v σ₁ h1
    exact h A env s X μ ρ σ v σ₁ Q E he hA hs h1 fun w h' tk X' μ' P R => freeze_post hs P R hd fun X'' P'' R'' => hQ w h' tk X'' μ' P'' R''
end Mine
end

section
set_option autoImplicit false
set_option Elab.async false
set_option maxRecDepth 100000
namespace Mine
noncomputable def tab : List Str := [Str.ofString "a", Str.ofString "b", Str.ofString "at", Str.ofString "one", Str.ofString "top", Str.ofString "bottom", Str.ofString "g", Str.ofString "found", Str.ofString "powers", Str.ofString "rational", Str.ofString "total", Str.ofString "step", Str.ofString "row", Str.ofString "ahead", Str.ofString "lead", Str.ofString "first", Str.ofString "column", Str.ofString "sign", Str.ofString "width", Str.ofString "size", Str.ofString "p", Str.ofString "number", Str.ofString "k", Str.ofString "many", Str.ofString "left", Str.ofString "other", Str.ofString "right", Str.ofString "rest", Str.ofString "power", Str.ofString "pool", Str.ofString "spot", Str.ofString "n", Str.ofString "most", Str.ofString "part", Str.ofString "heights", Str.ofString "sizes", Str.ofString "height", Str.ofString "low", Str.ofString "over", Str.ofString "parts", Str.ofString "numbers", Str.ofString "j", Str.ofString "i", Str.ofString "rows", Str.ofString "third", Str.ofString "script", Str.ofString "lots", Str.ofString "keeps", Str.ofString "table", Str.ofString "turned", Str.ofString "spread", Str.ofString "due", Str.ofString "rounds", Str.ofString "hooks", Str.ofString "both", Str.ofString "often", Str.ofString "whole", Str.ofString "told", Str.ofString "place", Str.ofString "lot", Str.ofString "second", Str.ofString "leg", Str.ofString "cell", Str.ofString "keep"]

noncomputable def b_powers_product : DS := seqS (retS (opND tupleV (consL (opND lstV (compL [2, 3] (enumTD (nameD 0)) (.many [2, 3]) (emitL (yesT) (op2D addV (nameD 3) (op2D itemV (nameD 1) (nameD 2)))))) (nilL)))) (nilS)
noncomputable def c_powers_product : DC := callD [0, 1] b_powers_product

noncomputable def b_gcd : DS := seqS (swapS (consL (opND absV (consL (nameD 0) (nilL))) (consL (opND absV (consL (nameD 1) (nilL))) (nilL))) [1, 0]) (seqS (whileL (toT (op2D neV (nameD 1) (constD (.int 0)))) (seqS (swapS (consL (nameD 1) (consL (op2D modV (nameD 0) (nameD 1)) (nilL))) [1, 0]) (nilS)) 40) (seqS (retS (nameD 0)) (nilS)))
noncomputable def c_gcd : DC := callD [0, 1] b_gcd

noncomputable def b_pivot_row : DS := seqS (forS (anyI (opND rangeV (consL (nameD 11) (consL (opND lenV (consL (nameD 0) (nilL))) (nilL))))) (.one 12) (seqS (ifS (toT (op2D neV (op2D itemV (op2D itemV (nameD 0) (nameD 12)) (nameD 11)) (constD (.int 0)))) (seqS (retS (nameD 12)) (nilS)) (nilS)) (nilS))) (seqS (retS (constD .none)) (nilS))
noncomputable def c_pivot_row : DC := callD [0, 11] b_pivot_row

noncomputable def b_bareiss_step : DS := seqS (asgS (op2D itemV (op2D itemV (nameD 0) (nameD 11)) (nameD 11)) (nameT 14)) (seqS (forS (anyI (opND rangeV (consL (op2D addV (nameD 11) (constD (.int 1))) (consL (opND lenV (consL (nameD 0) (nilL))) (nilL))))) (.one 12) (seqS (asgS (op2D itemV (op2D itemV (nameD 0) (nameD 12)) (nameD 11)) (nameT 15)) (seqS (forS (anyI (opND rangeV (consL (op2D addV (nameD 11) (constD (.int 1))) (consL (opND lenV (consL (nameD 0) (nilL))) (nilL))))) (.one 16) (seqS (asgS (op2D divV (op2D subV (op2D mulV (op2D itemV (op2D itemV (nameD 0) (nameD 12)) (nameD 16)) (nameD 14)) (op2D mulV (nameD 15) (op2D itemV (op2D itemV (nameD 0) (nameD 11)) (nameD 16)))) (nameD 13)) (subT (op2D itemV (nameD 0) (nameD 12)) (nameD 16))) (nilS))) (seqS (asgS (constD (.int 0)) (subT (op2D itemV (nameD 0) (nameD 12)) (nameD 11))) (nilS))))) (nilS))
noncomputable def c_bareiss_step : DC := callD [0, 11, 13] b_bareiss_step

noncomputable def b_whole_mul : DS := seqS (asgS (ifD (toT (op2D gtV (opND lenV (consL (nameD 1) (nilL))) (constD (.int 0)))) (opND lenV (consL (op2D itemV (nameD 1) (constD (.int 0))) (nilL))) (constD (.int 0))) (nameT 18)) (seqS (retS (opND lstV (compL [12] (anyI (nameD 0)) (.one 12) (emitL (yesT) (opND lstV (compL [16] (anyI (opND rangeV (consL (nameD 18) (nilL)))) (.one 16) (emitL (yesT) (opND sumV (consL (opND lstV (compL [2] (anyI (opND rangeV (consL (opND lenV (consL (nameD 1) (nilL))) (nilL)))) (.one 2) (emitL (yesT) (op2D mulV (op2D itemV (nameD 12) (nameD 2)) (op2D itemV (op2D itemV (nameD 1) (nameD 2)) (nameD 16)))))) (nilL)))))))))) (nilS))
noncomputable def c_whole_mul : DC := callD [0, 1] b_whole_mul

noncomputable def b_whole_turned : DS := seqS (retS (opND lstV (compL [16] (anyI (opND rangeV (consL (nameD 18) (nilL)))) (.one 16) (emitL (yesT) (opND lstV (compL [12] (anyI (nameD 0)) (.one 12) (emitL (yesT) (op2D itemV (nameD 12) (nameD 16))))))))) (nilS)
noncomputable def c_whole_turned : DC := callD [0, 18] b_whole_turned

noncomputable def b_ztrim : DS := seqS (asgS (opND lenV (consL (nameD 12) (nilL))) (nameT 19)) (seqS (whileL (andT (toT (op2D gtV (nameD 19) (constD (.int 0)))) (toT (op2D eqV (op2D itemV (nameD 12) (op2D subV (nameD 19) (constD (.int 1)))) (constD (.int 0))))) (seqS (augS 19 subV (constD (.int 1))) (nilS)) 40) (seqS (retS (opND listV (consL (sliceD (nameD 12) (constD .none) (nameD 19) (constD .none)) (nilL)))) (nilS)))
noncomputable def c_ztrim : DC := callD [12] b_ztrim

noncomputable def b_zneg : DS := seqS (retS (opND lstV (compL [21] (anyI (nameD 20)) (.one 21) (emitL (yesT) (op1D negV (nameD 21)))))) (nilS)
noncomputable def c_zneg : DC := callD [20] b_zneg

noncomputable def b_zscale : DS := seqS (retS (ifD (toT (op2D neV (nameD 22) (constD (.int 0)))) (opND lstV (compL [21] (anyI (nameD 20)) (.one 21) (emitL (yesT) (op2D mulV (nameD 21) (nameD 22))))) (opND lstV (nilL)))) (nilS)
noncomputable def c_zscale : DC := callD [20, 22] b_zscale

noncomputable def b_zraise : DS := seqS (retS (ifD (toT (op2D gtV (opND lenV (consL (nameD 20) (nilL))) (constD (.int 0)))) (op2D addV (opND lstV (repD (opND lstV (consL (constD (.int 0)) (nilL))) (nameD 23))) (opND listV (consL (nameD 20) (nilL)))) (opND lstV (nilL)))) (nilS)
noncomputable def c_zraise : DC := callD [20, 23] b_zraise

noncomputable def b_zmul : DS := seqS (ifS (orT (toT (op2D eqV (opND lenV (consL (nameD 0) (nilL))) (constD (.int 0)))) (toT (op2D eqV (opND lenV (consL (nameD 1) (nilL))) (constD (.int 0))))) (seqS (retS (opND lstV (nilL))) (nilS)) (nilS)) (seqS (asgS (mutD (repD (opND lstV (consL (constD (.int 0)) (nilL))) (op2D subV (op2D addV (opND lenV (consL (nameD 0) (nilL))) (opND lenV (consL (nameD 1) (nilL)))) (constD (.int 1))))) (nameT 7)) (seqS (forS (enumD (nameD 0)) (.many [3, 24]) (seqS (ifS (toT (op2D neV (nameD 24) (constD (.int 0)))) (seqS (forS (enumD (nameD 1)) (.many [25, 26]) (seqS (augSubS (nameD 7) (op2D addV (nameD 3) (nameD 25)) iaddV (op2D mulV (nameD 24) (nameD 26))) (nilS))) (nilS)) (nilS)) (nilS))) (seqS (retS (nameD 7)) (nilS))))
noncomputable def c_zmul : DC := callD [0, 1] b_zmul

noncomputable def b_check_bottom : DS := seqS (ifS (toT (op2D eqV (opND lenV (consL (nameD 20) (nilL))) (constD (.int 0)))) (seqS (noneS) (nilS)) (nilS)) (nilS)
noncomputable def c_check_bottom : DC := callD [20] b_check_bottom

noncomputable def b_law_draw : DS := seqS (asgS (op2D itemV (nameD 29) (constD (.int 1))) (nameT 30)) (seqS (asgS (op2D addV (nameD 30) (constD (.int 1))) (subT (nameD 29) (constD (.int 1)))) (seqS (ifS (toT (op2D ltV (nameD 30) (opND lenV (consL (op2D itemV (nameD 29) (constD (.int 0))) (nilL))))) (seqS (retS (op2D modV (opND absV (consL (op2D itemV (op2D itemV (nameD 29) (constD (.int 0))) (nameD 30)) (nilL))) (nameD 23))) (nilS)) (nilS)) (seqS (retS (op2D modV (op2D itemV (opND tupV (consL (constD (.int 1)) (consL (constD (.int 3)) (consL (constD (.int 2)) (consL (constD (.int 2)) (nilL)))))) (op2D modV (nameD 30) (constD (.int 4)))) (nameD 23))) (nilS))))
noncomputable def c_law_draw : DC := callD [29, 23] b_law_draw

noncomputable def b_law_keeps : DS := seqS (asgS (constD (.int 1)) (nameT 7)) (seqS (forS (enumD (nameD 35)) (.many [2, 19]) (seqS (asgS (op2D mulV (op2D mulV (nameD 7) (nameD 19)) (op2D countV (sliceD (nameD 35) (constD .none) (op2D addV (nameD 2) (constD (.int 1))) (constD .none)) (nameD 19))) (nameT 7)) (nilS))) (seqS (retS (nameD 7)) (nilS)))
noncomputable def c_law_keeps : DC := callD [35] b_law_keeps

noncomputable def b_law_product : DS := seqS (asgS (constD (.int 1)) (nameT 7)) (seqS (forS (anyI (nameD 40)) (.one 21) (seqS (asgS (op2D mulV (nameD 7) (nameD 21)) (nameT 7)) (nilS))) (seqS (retS (nameD 7)) (nilS)))
noncomputable def c_law_product : DC := callD [40] b_law_product

noncomputable def b_law_diagonal : DS := seqS (retS (opND lstV (compL [42, 21] (enumD (nameD 40)) (.many [42, 21]) (emitL (yesT) (opND lstV (compL [41] (anyI (opND rangeV (consL (opND lenV (consL (nameD 40) (nilL))) (nilL)))) (.one 41) (emitL (yesT) (ifD (toT (op2D eqV (nameD 42) (nameD 41))) (nameD 21) (constD (.int 0)))))))))) (nilS)
noncomputable def c_law_diagonal : DC := callD [40] b_law_diagonal

noncomputable def b_law_sequences : DS := seqS (retS (opND lstV (consL (opND tupV (consL (constD (.int 0)) (consL (constD (.int 1)) (consL (constD (.int 2)) (consL (constD (.int 1)) (nilL)))))) (consL (opND tupV (consL (constD (.int 1)) (consL (constD (.int 2)) (consL (constD (.int 0)) (consL (constD (.int 1)) (nilL)))))) (consL (opND tupV (consL (constD (.int 2)) (consL (constD (.int 0)) (consL (constD (.int 1)) (consL (constD (.int 1)) (nilL)))))) (consL (opND tupV (consL (constD (.int 0)) (consL (constD (.int 2)) (consL (constD (.int 1)) (consL (op1D negV (constD (.int 1))) (nilL)))))) (consL (opND tupV (consL (constD (.int 2)) (consL (constD (.int 1)) (consL (constD (.int 0)) (consL (op1D negV (constD (.int 1))) (nilL)))))) (consL (opND tupV (consL (constD (.int 1)) (consL (constD (.int 0)) (consL (constD (.int 2)) (consL (op1D negV (constD (.int 1))) (nilL)))))) (nilL))))))))) (nilS)
noncomputable def c_law_sequences : DC := callD [] b_law_sequences

noncomputable def b_rat : DS := seqS (ifS (toT (op2D eqV (nameD 5) (constD (.int 0)))) (seqS (noneS) (nilS)) (nilS)) (seqS (asgS (ifD (toT (op2D gtV (nameD 5) (constD (.int 0)))) (callE c_gcd (consL (nameD 4) (consL (nameD 5) (nilL)))) (op2D subV (constD (.int 0)) (callE c_gcd (consL (nameD 4) (consL (nameD 5) (nilL)))))) (nameT 6)) (seqS (retS (opND tupV (consL (op2D divV (nameD 4) (nameD 6)) (consL (op2D divV (nameD 5) (nameD 6)) (nilL))))) (nilS)))
noncomputable def c_rat : DC := callD [4, 5] b_rat

noncomputable def b_determinant : DS := seqS (ifS (toT (op2D neV (opND lstV (compL [12] (anyI (nameD 0)) (.one 12) (emitL (toT (op2D neV (opND lenV (consL (nameD 12) (nilL))) (opND lenV (consL (nameD 0) (nilL))))) (nameD 12)))) (opND lstV (nilL)))) (seqS (noneS) (nilS)) (nilS)) (seqS (swapS (consL (mutD (compL [12] (anyI (nameD 0)) (.one 12) (emitL (yesT) (mutD (listD (consL (nameD 12) (nilL))))))) (consL (constD (.int 1)) (consL (constD (.int 1)) (nilL)))) [13, 17, 7]) (seqS (forS (anyI (opND rangeV (consL (opND lenV (consL (nameD 0) (nilL))) (nilL)))) (.one 11) (seqS (asgS (callE c_pivot_row (consL (nameD 7) (consL (nameD 11) (nilL)))) (nameT 12)) (seqS (ifS (toT (op2D isV (nameD 12) (constD .none))) (seqS (retS (constD (.int 0))) (nilS)) (nilS)) (seqS (ifS (toT (op2D neV (nameD 12) (nameD 11))) (seqS (tupS (consL (op2D itemV (nameD 7) (nameD 11)) (consL (op2D itemV (nameD 7) (nameD 12)) (nilL))) ((subT (nameD 7) (nameD 12)) :: (subT (nameD 7) (nameD 11)) :: [])) (seqS (asgS (op1D negV (nameD 17)) (nameT 17)) (nilS))) (nilS)) (seqS (exprS (callE c_bareiss_step (consL (nameD 7) (consL (nameD 11) (consL (nameD 13) (nilL)))))) (seqS (asgS (op2D itemV (op2D itemV (nameD 7) (nameD 11)) (nameD 11)) (nameT 13)) (nilS))))))) (seqS (retS (op2D mulV (nameD 17) (nameD 13))) (nilS))))
noncomputable def c_determinant : DC := callD [0] b_determinant

noncomputable def b_zadd : DS := seqS (asgS (opND maxV (consL (opND lenV (consL (nameD 0) (nilL))) (consL (opND lenV (consL (nameD 1) (nilL))) (nilL)))) (nameT 19)) (seqS (retS (callE c_ztrim (consL (opND lstV (compL [2] (anyI (opND rangeV (consL (nameD 19) (nilL)))) (.one 2) (emitL (yesT) (op2D addV (ifD (toT (op2D ltV (nameD 2) (opND lenV (consL (nameD 0) (nilL))))) (op2D itemV (nameD 0) (nameD 2)) (constD (.int 0))) (ifD (toT (op2D ltV (nameD 2) (opND lenV (consL (nameD 1) (nilL))))) (op2D itemV (nameD 1) (nameD 2)) (constD (.int 0))))))) (nilL)))) (nilS))
noncomputable def c_zadd : DC := callD [0, 1] b_zadd

noncomputable def b_law_alternants : DS := seqS (asgS (emptyD) (nameT 7)) (seqS (forS (lstI (nameD 43)) (.many [8, 21]) (seqS (forS (lstI (callE c_law_sequences nilL)) (.many [3, 25, 44, 17]) (seqS (ifS (toT (op2D neV (nameD 21) (constD (.int 0)))) (seqS (asgS (opND tupV (consL (op2D mulV (nameD 17) (nameD 21)) (consL (constD (.int 1)) (nilL)))) (subT (nameD 7) (opND tupV (consL (op2D itemV (nameD 8) (nameD 3)) (consL (op2D itemV (nameD 8) (nameD 25)) (consL (op2D itemV (nameD 8) (nameD 44)) (nilL))))))) (nilS)) (nilS)) (nilS))) (nilS))) (seqS (retS (nameD 7)) (nilS)))
noncomputable def c_law_alternants : DC := callD [43] b_law_alternants

noncomputable def b_radd : DS := seqS (retS (callE c_rat (consL (op2D addV (op2D mulV (op2D itemV (nameD 0) (constD (.int 0))) (op2D itemV (nameD 1) (constD (.int 1)))) (op2D mulV (op2D itemV (nameD 1) (constD (.int 0))) (op2D itemV (nameD 0) (constD (.int 1))))) (consL (op2D mulV (op2D itemV (nameD 0) (constD (.int 1))) (op2D itemV (nameD 1) (constD (.int 1)))) (nilL))))) (nilS)
noncomputable def c_radd : DC := callD [0, 1] b_radd

noncomputable def b_rmul : DS := seqS (retS (callE c_rat (consL (op2D mulV (op2D itemV (nameD 0) (constD (.int 0))) (op2D itemV (nameD 1) (constD (.int 0)))) (consL (op2D mulV (op2D itemV (nameD 0) (constD (.int 1))) (op2D itemV (nameD 1) (constD (.int 1)))) (nilL))))) (nilS)
noncomputable def c_rmul : DC := callD [0, 1] b_rmul

noncomputable def b_zsub : DS := seqS (retS (callE c_zadd (consL (nameD 0) (consL (callE c_zneg (consL (nameD 1) (nilL))) (nilL))))) (nilS)
noncomputable def c_zsub : DC := callD [0, 1] b_zsub

noncomputable def b_add_term : DS := seqS (asgS (ifD (toT (op2D inV (nameD 8) (nameD 7))) (callE c_radd (consL (op2D itemV (nameD 7) (nameD 8)) (consL (nameD 9) (nilL)))) (nameD 9)) (nameT 10)) (seqS (ifS (toT (op2D eqV (nameD 10) (constD (.tup [.int 0, .int 1])))) (seqS (popS (nameD 7) (nameD 8)) (nilS)) (seqS (asgS (nameD 10) (subT (nameD 7) (nameD 8))) (nilS))) (nilS))
noncomputable def c_add_term : DC := callD [7, 8, 9] b_add_term

noncomputable def b_zexact : DS := seqS (exprS (callE c_check_bottom (consL (nameD 1) (nilL)))) (seqS (swapS (consL (opND listV (consL (nameD 0) (nilL))) (consL (mutD (repD (opND lstV (consL (constD (.int 0)) (nilL))) (opND maxV (consL (constD (.int 0)) (consL (op2D addV (op2D subV (opND lenV (consL (nameD 0) (nilL))) (opND lenV (consL (nameD 1) (nilL)))) (constD (.int 1))) (nilL)))))) (nilL))) [7, 27]) (seqS (whileL (toT (op2D geV (opND lenV (consL (nameD 27) (nilL))) (opND lenV (consL (nameD 1) (nilL))))) (seqS (ifS (toT (op2D neV (op2D modV (op2D itemV (nameD 27) (op1D negV (constD (.int 1)))) (op2D itemV (nameD 1) (op1D negV (constD (.int 1))))) (constD (.int 0)))) (seqS (retS (constD .none)) (nilS)) (nilS)) (seqS (swapS (consL (op2D divV (op2D itemV (nameD 27) (op1D negV (constD (.int 1)))) (op2D itemV (nameD 1) (op1D negV (constD (.int 1))))) (consL (op2D subV (opND lenV (consL (nameD 27) (nilL))) (opND lenV (consL (nameD 1) (nilL)))) (nilL))) [28, 21]) (seqS (asgS (nameD 21) (subT (nameD 7) (nameD 28))) (seqS (asgS (callE c_zsub (consL (nameD 27) (consL (callE c_zraise (consL (callE c_zscale (consL (nameD 1) (consL (nameD 21) (nilL)))) (consL (nameD 28) (nilL)))) (nilL)))) (nameT 27)) (nilS))))) 40) (seqS (retS (ifD (toT (op2D eqV (opND lenV (consL (nameD 27) (nilL))) (constD (.int 0)))) (callE c_ztrim (consL (nameD 7) (nilL))) (constD .none))) (nilS))))
noncomputable def c_zexact : DC := callD [0, 1] b_zexact

noncomputable def b_mvmul : DS := seqS (asgS (emptyD) (nameT 7)) (seqS (forS (dctI (nameD 1)) (.one 8) (seqS (forS (dctI (nameD 0)) (.one 3) (seqS (exprS (callE c_add_term (consL (nameD 7) (consL (callE c_powers_product (consL (nameD 3) (consL (nameD 8) (nilL)))) (consL (callE c_rmul (consL (op2D itemV (nameD 0) (nameD 3)) (consL (op2D itemV (nameD 1) (nameD 8)) (nilL)))) (nilL)))))) (nilS))) (nilS))) (seqS (retS (nameD 7)) (nilS)))
noncomputable def c_mvmul : DC := callD [0, 1] b_mvmul

noncomputable def b_law_partitions (c : DC) : DS := seqS (ifS (toT (op2D eqV (nameD 31) (constD (.int 0)))) (seqS (retS (opND lstV (consL (opND lstV (nilL)) (nilL)))) (nilS)) (nilS)) (seqS (retS (opND lstV (compL [33, 27] (anyI (opND rangeV (consL (opND minV (consL (nameD 31) (consL (nameD 32) (nilL)))) (consL (constD (.int 0)) (consL (op1D negV (constD (.int 1))) (nilL)))))) (.one 33) (nestL (anyI (callE c (consL (op2D subV (nameD 31) (nameD 33)) (consL (nameD 33) (nilL))))) (freshT (.one 27)) (.one 27) (emitL (yesT) (op2D addV (opND lstV (consL (nameD 33) (nilL))) (nameD 27))))))) (nilS))
noncomputable def r_law_partitions : Nat → DC
  | 0 => fun _ _ => none
  | m + 1 => callD [31, 32] (b_law_partitions (r_law_partitions m))
noncomputable def c_law_partitions : DC := r_law_partitions 8

noncomputable def b_law_strips (c : DC) : DS := seqS (ifS (toT (op2D eqV (opND lenV (consL (nameD 35) (nilL))) (constD (.int 0)))) (seqS (retS (constD (.int 1))) (nilS)) (nilS)) (seqS (asgS (constD (.int 0)) (nameT 7)) (seqS (forS (enumD (nameD 34)) (.many [2, 36]) (seqS (asgS (op2D subV (nameD 36) (op2D itemV (nameD 35) (constD (.int 0)))) (nameT 37)) (seqS (ifS (andT (toT (op2D geV (nameD 37) (constD (.int 0)))) (toT (op2D notInV (nameD 37) (nameD 34)))) (seqS (asgS (opND lenV (consL (opND lstV (compL [3] (anyI (nameD 34)) (.one 3) (emitL (chainT ltV ltV (nameD 37) (nameD 3) (nameD 36)) (nameD 3)))) (nilL))) (nameT 38)) (seqS (augS 7 iaddV (op2D mulV (op2D subV (constD (.int 1)) (op2D mulV (constD (.int 2)) (op2D modV (nameD 38) (constD (.int 2))))) (callE c (consL (op2D addV (op2D addV (sliceD (nameD 34) (constD .none) (nameD 2) (constD .none)) (opND lstV (consL (nameD 37) (nilL)))) (sliceD (nameD 34) (op2D addV (nameD 2) (constD (.int 1))) (constD .none) (constD .none))) (consL (sliceD (nameD 35) (constD (.int 1)) (constD .none) (constD .none)) (nilL)))))) (nilS))) (nilS)) (nilS)))) (seqS (retS (nameD 7)) (nilS))))
noncomputable def r_law_strips : Nat → DC
  | 0 => fun _ _ => none
  | m + 1 => callD [34, 35] (b_law_strips (r_law_strips m))
noncomputable def c_law_strips : DC := r_law_strips 8

noncomputable def b_law_number : DS := seqS (retS (callE c_law_strips (consL (opND lstV (compL [2, 33] (enumD (nameD 39)) (.many [2, 33]) (emitL (yesT) (op2D subV (op2D subV (op2D addV (nameD 33) (opND lenV (consL (nameD 39) (nilL)))) (constD (.int 1))) (nameD 2))))) (consL (nameD 35) (nilL))))) (nilS)
noncomputable def c_law_number : DC := callD [39, 35] b_law_number

noncomputable def law_0 : DS := asgS (mutD (dispD (consL (opND lstV (compL [62] (anyI (sliceD (nameD 45) (constD .none) (constD (.int 4)) (constD .none))) (.one 62) (emitL (yesT) (opND intV (consL (nameD 62) (nilL)))))) (consL (constD (.int 0)) (nilL))))) (nameT 29)
noncomputable def law_1 : DS := asgS (op2D addV (constD (.int 3)) (callE c_law_draw (consL (nameD 29) (consL (constD (.int 3)) (nilL))))) (nameT 31)
noncomputable def law_2 : DS := asgS (callE c_law_partitions (consL (nameD 31) (consL (nameD 31) (nilL)))) (nameT 46)
noncomputable def law_3 : DS := tupS (consL (opND lenV (consL (nameD 46) (nilL))) (consL (callE c_law_product (consL (opND rangeV (consL (constD (.int 1)) (consL (op2D addV (nameD 31) (constD (.int 1))) (nilL)))) (nilL))) (nilL))) ((nameT 23) :: (nameT 56) :: [])
noncomputable def law_4 : DS := asgS (op2D itemV (nameD 46) (callE c_law_draw (consL (nameD 29) (consL (nameD 23) (nilL))))) (nameT 35)
noncomputable def law_5 : DS := asgS (opND lstV (compL [59] (anyI (nameD 46)) (.one 59) (emitL (yesT) (callE c_law_keeps (consL (nameD 59) (nilL)))))) (nameT 47)
noncomputable def law_6 : DS := asgS (opND lstV (compL [39] (anyI (nameD 46)) (.one 39) (emitL (yesT) (opND lstV (compL [59] (anyI (nameD 46)) (.one 59) (emitL (yesT) (callE c_law_number (consL (nameD 39) (consL (nameD 59) (nilL)))))))))) (nameT 48)
noncomputable def law_7 : DS := asgS (callE c_whole_turned (consL (nameD 48) (consL (nameD 23) (nilL)))) (nameT 49)
noncomputable def law_8 : DS := asgS (callE c_law_diagonal (consL (opND lstV (compL [63] (anyI (nameD 47)) (.one 63) (emitL (yesT) (op2D divV (nameD 56) (nameD 63))))) (nilL))) (nameT 50)
noncomputable def law_9 : DS := ifS (toT (op2D neV (callE c_whole_mul (consL (callE c_whole_mul (consL (nameD 48) (consL (nameD 50) (nilL)))) (consL (nameD 49) (nilL)))) (callE c_law_diagonal (consL (opND lstV (repD (opND lstV (consL (nameD 56) (nilL))) (nameD 23))) (nilL))))) (seqS (retS (constD (.bool false))) (nilS)) (nilS)
noncomputable def law_10 : DS := ifS (toT (op2D neV (callE c_whole_mul (consL (nameD 49) (consL (nameD 48) (nilL)))) (callE c_law_diagonal (consL (nameD 47) (nilL))))) (seqS (retS (constD (.bool false))) (nilS)) (nilS)
noncomputable def law_11 : DS := ifS (toT (op2D neV (opND absV (consL (callE c_determinant (consL (nameD 48) (nilL))) (nilL))) (callE c_law_product (consL (opND lstV (compL [59, 33] (anyI (nameD 46)) (.one 59) (nestL (anyI (nameD 59)) (freshT (.one 33)) (.one 33) (emitL (yesT) (nameD 33))))) (nilL))))) (seqS (retS (constD (.bool false))) (nilS)) (nilS)
noncomputable def law_12 : DS := swapS (consL (callE c_law_alternants (consL (opND lstV (consL (opND tupV (consL (opND tupV (consL (constD (.int 2)) (consL (constD (.int 1)) (consL (constD (.int 0)) (nilL))))) (consL (constD (.int 1)) (nilL)))) (nilL))) (nilL))) (consL (op2D indexV (nameD 46) (nameD 35)) (nilL))) [58, 57]
noncomputable def law_13 : DS := forS (anyI (nameD 35)) (.one 19) (seqS (asgS (callE c_mvmul (consL (nameD 57) (consL (dictD (consP (opND tupV (consL (nameD 19) (consL (constD (.int 0)) (consL (constD (.int 0)) (nilL))))) (opND tupV (consL (constD (.int 1)) (consL (constD (.int 1)) (nilL)))) (consP (opND tupV (consL (constD (.int 0)) (consL (nameD 19) (consL (constD (.int 0)) (nilL))))) (opND tupV (consL (constD (.int 1)) (consL (constD (.int 1)) (nilL)))) (consP (opND tupV (consL (constD (.int 0)) (consL (constD (.int 0)) (consL (nameD 19) (nilL))))) (opND tupV (consL (constD (.int 1)) (consL (constD (.int 1)) (nilL)))) (nilP))))) (nilL)))) (nameT 57)) (nilS))
noncomputable def law_14 : DS := asgS (mutD (dispD (nilL))) (nameT 51)
noncomputable def law_15 : DS := forS (enumD (nameD 46)) (.many [2, 59]) (seqS (ifS (toT (op2D leV (opND lenV (consL (nameD 59) (nilL))) (constD (.int 3)))) (seqS (asgS (op2D addV (nameD 59) (opND lstV (repD (opND lstV (consL (constD (.int 0)) (nilL))) (op2D subV (constD (.int 3)) (opND lenV (consL (nameD 59) (nilL))))))) (nameT 39)) (seqS (appendS (nameD 51) (opND tupV (consL (opND tupV (consL (op2D addV (op2D itemV (nameD 39) (constD (.int 0))) (constD (.int 2))) (consL (op2D addV (op2D itemV (nameD 39) (constD (.int 1))) (constD (.int 1))) (consL (op2D itemV (nameD 39) (constD (.int 2))) (nilL))))) (consL (op2D itemV (op2D itemV (nameD 48) (nameD 2)) (nameD 58)) (nilL))))) (nilS))) (nilS)) (nilS))
noncomputable def law_16 : DS := ifS (toT (op2D neDV (nameD 57) (callE c_law_alternants (consL (frzD (nameD 51)) (nilL))))) (seqS (retS (constD (.bool false))) (nilS)) (nilS)
noncomputable def law_17 : DS := asgS (opND lstV (consL (constD (.int 1)) (nilL))) (nameT 52)
noncomputable def law_18 : DS := forS (anyI (nameD 35)) (.one 19) (seqS (asgS (callE c_zmul (consL (nameD 52) (consL (op2D addV (op2D addV (opND lstV (consL (op1D negV (constD (.int 1))) (nilL))) (opND lstV (repD (opND lstV (consL (constD (.int 0)) (nilL))) (op2D subV (nameD 19) (constD (.int 1)))))) (opND lstV (consL (constD (.int 1)) (nilL)))) (nilL)))) (nameT 52)) (nilS))
noncomputable def law_19 : DS := asgS (opND lstV (compL [61] (anyI (opND rangeV (consL (nameD 31) (nilL)))) (.one 61) (emitL (yesT) (op2D mulV (op2D subV (constD (.int 1)) (op2D mulV (constD (.int 2)) (op2D modV (nameD 61) (constD (.int 2))))) (callE c_law_number (consL (op2D addV (opND lstV (consL (op2D subV (nameD 31) (nameD 61)) (nilL))) (opND lstV (repD (opND lstV (consL (constD (.int 1)) (nilL))) (nameD 61)))) (consL (nameD 35) (nilL)))))))) (nameT 53)
noncomputable def law_20 : DS := ifS (toT (op2D neV (callE c_zexact (consL (nameD 52) (consL (opND lstV (consL (op1D negV (constD (.int 1))) (consL (constD (.int 1)) (nilL)))) (nilL)))) (sliceD (nameD 53) (constD .none) (constD .none) (op1D negV (constD (.int 1)))))) (seqS (retS (constD (.bool false))) (nilS)) (nilS)
noncomputable def law_21 : DS := tupS (consL (op2D itemV (nameD 48) (callE c_law_draw (consL (nameD 29) (consL (nameD 23) (nilL))))) (consL (op2D itemV (nameD 48) (callE c_law_draw (consL (nameD 29) (consL (nameD 23) (nilL))))) (nilL))) ((nameT 15) :: (nameT 60) :: [])
noncomputable def law_22 : DS := asgS (opND lstV (compL [2, 3] (enumD (nameD 15)) (.many [2, 3]) (emitL (yesT) (opND lstV (consL (op2D mulV (nameD 3) (op2D itemV (nameD 60) (nameD 2))) (nilL)))))) (nameT 54)
noncomputable def law_23 : DS := asgS (callE c_whole_mul (consL (callE c_whole_mul (consL (nameD 48) (consL (nameD 50) (nilL)))) (consL (nameD 54) (nilL)))) (nameT 55)
noncomputable def law_24 : DS := retS (op2D eqV (opND lstV (compL [12] (anyI (nameD 55)) (.one 12) (emitL (orT (toT (op2D neV (op2D modV (op2D itemV (nameD 12) (constD (.int 0))) (nameD 56)) (constD (.int 0)))) (toT (op2D ltV (op2D itemV (nameD 12) (constD (.int 0))) (constD (.int 0))))) (nameD 12)))) (opND lstV (nilL)))
noncomputable def b_law : DS := seqS law_0 (seqS law_1 (seqS law_2 (seqS law_3 (seqS law_4 (seqS law_5 (seqS law_6 (seqS law_7 (seqS law_8 (seqS law_9 (seqS law_10 (seqS law_11 (seqS law_12 (seqS law_13 (seqS law_14 (seqS law_15 (seqS law_16 (seqS law_17 (seqS law_18 (seqS law_19 (seqS law_20 (seqS law_21 (seqS law_22 (seqS law_23 (seqS law_24 (nilS)))))))))))))))))))))))))
noncomputable def c_law : DC := callD [45] b_law

end Mine
end

section
set_option autoImplicit false
set_option Elab.async false
set_option maxRecDepth 100000
namespace Mine

/-- the def that stands at a place of the row's text -/
noncomputable def fnOf? : Option Stmt → Option DefRec
  | some (.FunctionDef name args body _ _ _ scope _ _ pos) => some ⟨name, args, body, scope, pos⟩
  | _ => none
noncomputable def noFn : DefRec := ⟨Str.empty, ⟨[], [], none, [], [], none, []⟩, [], ⟨.function, [], false, false, []⟩, ⟨0, 0, 0, 0⟩⟩
noncomputable def fn (n : Nat) : DefRec := (fnOf? (PySem.Challenge.pw_xm0122_01.main.body[n]?)).getD noFn
noncomputable def fnIdx : List Nat := (List.range 70).filter fun n => (fnOf? (PySem.Challenge.pw_xm0122_01.main.body[n]?)).isSome
noncomputable def freeNames : List Str := ["tuple", "enumerate", "abs", "len", "range", "sum", "list", "max", "min", "int"]

structure Wd (C : Cx) (ad : Nat → Addr) : Prop where
  ok : C.Ok
  tab : C.tab = tab
  free : ∀ x ∈ freeNames, C.mg x = none
  fns : ∀ n ∈ fnIdx, C.mg (fn n).name = some (.ref (ad n)) ∧ ∃ o pm code doc, C.base.get? (ad n) = some o ∧ o.data = .func (Calls.docDef (fn n).name (fn n).params (fn n).body (fn n).scope pm code doc) ∧ C.base.CodeRec code (fn n).name
  r0 : ∃ v, C.mg (Str.ofString "R0") = some v ∧ RF C.prog C.w C.base [] v (.tup [.int 0, .int 1])

noncomputable def tabIs (i : Nat) (x : Str) : Bool := match tab[i]? with
  | some y => y == x
  | none => false
noncomputable def nmOk (sc : Scope) (i : Nat) (x : Str) : Bool := tabIs i x && locIn sc x && !(x == Str.ofString "__debug__") && !(x == Str.ofString "__classdict__")
noncomputable def aOk (sc : Scope) (i : Nat) (x : Str) : Bool := tabIs i x && stIn sc x

noncomputable def notStar : Expr → Bool
  | .Starred .. => false
  | _ => true
theorem st1 {e : Expr} {es : List Expr} (h : notStar e = true) : ∀ env, starEach (e :: es) env = (false, eval e env) :: starEach es env := by
  intro env
  cases e <;> first | rfl | cases h
theorem st2 {e : Expr} {es : List Expr} (h : notStar e = true) : ∀ (env : Env) (pos : Pos), backTo pos (starEach (e :: es) env) = (false, eval e env) :: backTo pos (starEach es env) := by
  intro env pos
  rw [st1 h]
  rfl
section
variable {C : Cx} {ad : Nat → Addr} {dp : Nat} {sc : Scope}
theorem SLc {e : Expr} {es : List Expr} {d : DE} {ds : DL} (h : notStar e = true) (hx : SE C dp sc e d) (hxs : SL C dp sc es ds) : SL C dp sc (e :: es) (consL d ds) := SL_cons (st1 h) hx hxs

noncomputable def zipKV : List (Option Expr) → List Expr → List (Expr × Expr)
  | some k :: ks, v :: vs => (k, v) :: zipKV ks vs
  | _, _ => []
theorem SE_dict2 (W : Wd C ad) {keys : List (Option Expr)} {values : List Expr} {pos : Pos} {ds : DP} (hp : SPs C dp sc pos (zipKV keys values) ds)
    (hshape : ∀ env, (evalEachOpt keys env).zip ((evalEach values env).map fun v => do let x ← v; standAt pos; pure x) = (pairTrees pos (zipKV keys values) env).map fun p => (some p.1, p.2)) (h0 : zipKV keys values ≠ []) (hlen : (zipKV keys values).length ≤ 15) :
    SE C dp sc (.Dict keys values pos) (dictD ds) := SE_dict W.ok hp hshape h0 hlen
theorem tabIs_eq (W : Wd C ad) {i : Nat} {x : Str} (h : tabIs i x = true) : C.tab[i]? = some x := by
  rw [W.tab]
  unfold tabIs at h
  split at h
  · rename_i y hy
    rw [hy, beq_iff_eq.mp h]
  · cases h
theorem Wd.nodup (W : Wd C ad) : C.tab.Nodup := W.ok.nodup
theorem Wd.no (W : Wd C ad) {x : Str} (h : freeNames.contains x = true) : C.mg x = none := W.free x (List.contains_iff_mem.mp h)
theorem neb {x y : Str} (h : (x == y) = false) : x ≠ y := fun q => by subst q; simp at h

theorem eN (W : Wd C ad) (i : Nat) {x : Str} {p : Pos} (h : nmOk sc i x = true) : SE C dp sc (.Name x p) (nameD i) := by
  unfold nmOk at h
  simp only [Bool.and_eq_true, Bool.not_eq_true'] at h
  exact SE_name (tabIs_eq W h.1.1.1) h.1.1.2 h.1.2 h.2
theorem eR0 (W : Wd C ad) {x : Str} {p : Pos} (h : (x == Str.ofString "R0") = true) (hk : (sc.names.lookup x == some .globalImplicit) = true) : SE C dp sc (.Name x p) (constD (.tup [.int 0, .int 1])) := by
  have := beq_iff_eq.mp h
  subst this
  obtain ⟨v, h1, h2⟩ := W.r0
  exact SE_global W.ok (beq_iff_eq.mp hk) (by decide +kernel) h1 h2

theorem Wd.has (W : Wd C ad) {k : Nat} (h : fnIdx.contains k = true) {x : Str} (hx : ((fn k).name == x) = true) : C.mg x = some (.ref (ad k)) ∧ ∃ o fd, C.base.get? (ad k) = some o ∧ o.data = .func fd := by
  obtain ⟨h1, o, pm, code, doc, h2, h3, _⟩ := W.fns k (List.contains_iff_mem.mp h)
  rw [beq_iff_eq.mp hx] at h1
  exact ⟨h1, o, _, h2, h3⟩
theorem eC (W : Wd C ad) (k : Nat) {x : Str} {c : DC} {e : Expr} {rest : List Expr} {ds : DL} {pos p : Pos} (hk : sc.names.lookup x = some .globalImplicit) (hd : (x == Str.ofString "__debug__") = false)
    (hi : fnIdx.contains k = true) (hx : ((fn k).name == x) = true) (hc : CO C dp (ad k) c) (hse : ∀ env pos, backTo pos (starEach (e :: rest) env) = (false, eval e env) :: backTo pos (starEach rest env)) (h : SL C dp sc (e :: rest) ds) :
    SE C dp sc (.Call (.Name x p) (e :: rest) [] pos) (callE c ds) := SE_callF W.ok hk hd (W.has hi hx).1 (W.has hi hx).2 hc hse h
theorem eC0 (W : Wd C ad) (k : Nat) {x : Str} {c : DC} {pos p : Pos} (hk : sc.names.lookup x = some .globalImplicit) (hd : (x == Str.ofString "__debug__") = false)
    (hi : fnIdx.contains k = true) (hx : ((fn k).name == x) = true) (hc : CO C dp (ad k) c) : SE C dp sc (.Call (.Name x p) [] [] pos) (callE c nilL) := SE_callF0 W.ok hk hd (W.has hi hx).1 (W.has hi hx).2 hc
theorem aN (W : Wd C ad) (i : Nat) {x : Str} {p : Pos} (h : aOk sc i x = true) : SA C sc (.Name x p) [x] (.one i) := by
  unfold aOk at h
  rw [Bool.and_eq_true] at h
  exact SA_name W.nodup (tabIs_eq W h.1) h.2
theorem aC (W : Wd C ad) (i : Nat) {x : Str} {p : Pos} {es : List Expr} {is : List Nat} {ns : List Str} (h : aOk sc i x = true) (r : NamesAre C sc es is ns) : NamesAre C sc (.Name x p :: es) (i :: is) (x :: ns) := by
  unfold aOk at h
  rw [Bool.and_eq_true] at h
  exact .cons (tabIs_eq W h.1) h.2 r
theorem tN (W : Wd C ad) (i : Nat) {x : Str} {p : Pos} (h : aOk sc i x = true) : TA C dp sc (.Name x p) (nameT i) := by
  unfold aOk at h
  rw [Bool.and_eq_true] at h
  exact TA_name W.nodup (tabIs_eq W h.1) h.2
theorem aug (W : Wd C ad) (i : Nat) {x : Str} {p : Pos} {op : Operator} {e : Expr} {pos : Pos} {f : V → V → Sto → Option V} {d : DE} (h : aOk sc i x = true) (ho : Op2 C (inplaceOp op) f) (hd : SE C dp sc e d) :
    S1 C dp sc (.AugAssign (.Name x p) op e pos) (augS i f d) := by
  unfold aOk at h
  rw [Bool.and_eq_true] at h
  exact S1_aug W.nodup (tabIs_eq W h.1) h.2 ho hd
theorem asgC (W : Wd C ad) (i : Nat) {x : Str} {p : Pos} {scope : Scope} {dels : List Nat} {ns : List Str} {tgt iter elt : Expr} {ifs : List Expr} {cpos pos : Pos} {ds : DL} {T : Tg} {dt : DT} {de : DE} (ok : CompOk C sc scope dels ns)
    (hi : SI C dp sc tgt iter ds) (hT : SA C (relabelS scope sc) tgt ns T) (hfr : T.all (fun i => dels.contains i) = true) (ht : STs C dp (relabelS scope sc) ifs dt) (hx : SE C dp (relabelS scope sc) elt de) (hs : ∀ env x, foldedSetIterable iter env x = pure x)
    (h : aOk sc i x = true) (hsw : ∀ env, env.scope = sc → swapsWith (.ListComp elt [⟨tgt, iter, ifs, 0⟩] scope cpos) (some (.Name x p)) pos.line env = pure true) :
    S1 C dp sc (.Assign [.Name x p] (.ListComp elt [⟨tgt, iter, ifs, 0⟩] scope cpos) pos) (asgS (opND lstV (compL dels ds T (emitL dt de))) (nameT i)) := by
  unfold aOk at h
  rw [Bool.and_eq_true] at h
  exact S1_asgComp W.nodup ok hi hT hfr ht hx hs (tabIs_eq W h.1) h.2 hsw

noncomputable def idsAre : List Nat → List Str → Bool
  | [], [] => true
  | i :: is, x :: xs => tabIs i x && idsAre is xs
  | _, _ => false
theorem idsAre_eq (W : Wd C ad) : ∀ {is : List Nat} {xs : List Str}, idsAre is xs = true → is.map (fun i => C.tab[i]?) = xs.map some
  | [], [], _ => rfl
  | [], _ :: _, h => by cases h
  | _ :: _, [], h => by cases h
  | i :: is, x :: xs, h => by
    simp only [idsAre, Bool.and_eq_true] at h
    simp only [List.map_cons]
    rw [tabIs_eq W h.1, idsAre_eq W h.2]
theorem swp (W : Wd C ad) {es vs : List Expr} {k k' : Nat} {p p' pos : Pos} {ds : DL} (xs : List Str) (hv : SL C dp sc vs ds) (is : List Nat) (h1 : idsAre is xs.reverse = true) (h2 : xs.all (stIn sc) = true)
    (hs : ∀ env, swapsWithSole [.Tuple es k p] (.Tuple vs k' p') pos.line env = pure false) (hw : ∀ env, env.scope = sc → swappedStores [.Tuple es k p] (.Tuple vs k' p') env = pure (some xs)) :
    S1 C dp sc (.Assign [.Tuple es k p] (.Tuple vs k' p') pos) (swapS ds is) := S1_swap W.nodup hv (idsAre_eq W h1) (fun x m => List.all_eq_true.mp h2 x m) hs hw

-- scopes of comprehensions ----------------------------------------------------------------------------------------------------
noncomputable def cOkB (sc scope : Scope) (dels : List Nat) (ns : List Str) : Bool :=
  (scope.kind == .function) && scope.names.all (fun x => !(x.2 == .local) || (scope.names.lookup x.1 == some .local)) && scope.names.all (fun x => !(x.2 == .free) || (sc.names.lookup x.1 == some .cell) || (sc.names.lookup x.1 == some .free)) &&
  scope.names.all (fun x => !(x.2 == .local || x.2 == .cell) || (List.range tab.length).all fun i => !(tabIs i x.1) || dels.contains i) && ns.all (fun x => scope.names.all fun y => !(y.2 == .free && y.1 == x))
theorem cOk (W : Wd C ad) {scope : Scope} (dels : List Nat) {ns : List Str} (h : cOkB sc scope dels ns = true) : CompOk C sc scope dels ns := by
  unfold cOkB at h
  simp only [Bool.and_eq_true] at h
  obtain ⟨⟨⟨⟨h1, h2⟩, h3⟩, h4⟩, h5⟩ := h
  refine ⟨beq_iff_eq.mp h1, fun x m e => ?_, fun x m e => ?_, fun x m e i hi => ?_, fun x m q => ?_⟩
  · have := List.all_eq_true.mp h2 x m
    rw [e] at this
    simpa using this
  · have := List.all_eq_true.mp h3 x m
    rw [e] at this
    simpa using this
  · have := List.all_eq_true.mp h4 x m
    have hk : (x.2 == NameKind.local || x.2 == NameKind.cell) = true := by rcases e with e | e <;> rw [e] <;> rfl
    rw [hk] at this
    simp only [Bool.not_true, Bool.false_or] at this
    rw [W.tab] at hi
    have hlt : i < tab.length := (List.getElem?_eq_some_iff.mp hi).1
    have := List.all_eq_true.mp this i (List.mem_range.mpr hlt)
    have ht : tabIs i x.1 = true := by unfold tabIs; rw [hi]; simp
    rw [ht] at this
    simpa using this
  · have := List.all_eq_true.mp (List.all_eq_true.mp h5 x m) _ q
    simp at this

-- the defs ---------------------------------------------------------------------------------------------------------------------
theorem Wd.at (W : Wd C ad) (k : Nat) (hk : fnIdx.contains k = true) (ps : List Str) (hb : ∀ pm code doc (vals : List Value), vals.length = ps.length → bindArgs (Calls.docDef (fn k).name (fn k).params (fn k).body (fn k).scope pm code doc) ⟨vals, []⟩ = pure (ps.zip vals)) :
    FnAt C (ad k) ps (fn k).scope (fn k).body := by
  obtain ⟨h1, o, pm, code, doc, h2, h3, h4⟩ := W.fns k (List.contains_iff_mem.mp hk)
  exact ⟨o, _, h2, h3, rfl, rfl, rfl, rfl, rfl, h4, hb pm code doc⟩
noncomputable def fokB (sc : Scope) (is : List Nat) (ps : List Str) : Bool :=
  (sc.kind == .function) && !sc.isCoroutine && !sc.isGenerator && idsAre is ps && ps.all (fun x => (sc.names.lookup x == some .local) || (sc.names.lookup x == some .cell)) && decide ps.Nodup && sc.names.all (fun y => !(y.2 == .free))
theorem Wd.fok (W : Wd C ad) (is : List Nat) (ps : List Str) (h : fokB sc is ps = true) : FnOk C ps is sc := by
  unfold fokB at h
  simp only [Bool.and_eq_true, Bool.not_eq_true', decide_eq_true_eq] at h
  obtain ⟨⟨⟨⟨⟨⟨h1, h2⟩, h3⟩, h4⟩, h5⟩, h6⟩, h7⟩ := h
  refine ⟨beq_iff_eq.mp h1, h2, h3, idsAre_eq W h4, fun x m => ?_, h6, fun x q => ?_⟩
  · have := List.all_eq_true.mp h5 x m
    simpa using this
  · have := List.all_eq_true.mp h7 _ (mem_of_lookup q)
    simp at this
/-- a proof whose statement is not to be looked into -/
structure Hide (p : Prop) : Prop where
  out : p
theorem CO_ofH (ok : C.Ok) {a : Addr} {ps : List Str} {is : List Nat} {body : List Stmt} {d : DS} (F : FnAt C a ps sc body) (G : FnOk C ps is sc) (hb : Hide (SS C dp sc body d)) : CO C (dp + 1) a (callD is d) := CO_of ok F G hb.out
end
end Mine
end

section
set_option autoImplicit false
set_option Elab.async false
set_option maxRecDepth 100000
namespace Mine
theorem s_powers_product {C : Cx} {ad : Nat → Addr} (W : Wd C ad) : Hide (SS C 0 (fn 1).scope (fn 1).body b_powers_product) := by
  refine ⟨?_⟩
  refine SS_cons ?_ ?_
  · refine S1_ret ?_
    refine SE_callT W.ok ?_ ?_ (W.no (by kernel_rfl)) (neb (by kernel_rfl)) ?_ opN_tup ?_ ?_ ?_
    · kernel_rfl
    · kernel_rfl
    · kernel_rfl
    · exact (fun _ _ => rfl)
    · exact (fun _ _ => rfl)
    refine SLc ?_ ?_ ?_
    · rfl
    · refine SF_freeze ?_
      refine SF_comp1 (ns:=[Str.ofString "at", Str.ofString "one"]) ?_ ?_ ?_ ?_ ?_ ?_ ?_
      · refine cOk W [2, 3] ?_
        kernel_rfl
      · refine SI_enumT W.ok ?_ ?_ (W.no (by kernel_rfl)) (neb (by kernel_rfl)) ?_ ?_ ?_
        · kernel_rfl
        · kernel_rfl
        · kernel_rfl
        · exact (fun _ _ => rfl)
        refine eN W 0 ?_
        kernel_rfl
      · refine SA_tuple W.nodup ?_
        refine aC W 2 ?_ ?_
        · kernel_rfl
        refine aC W 3 ?_ ?_
        · kernel_rfl
        exact NamesAre.nil
      · kernel_rfl
      · exact (.inl ⟨rfl, rfl⟩)
      · refine SE_op2 op_add ?_ ?_
        · refine eN W 3 ?_
          kernel_rfl
        refine SE_item ?_ ?_ ?_
        · exact (fun _ _ => rfl)
        · refine eN W 1 ?_
          kernel_rfl
        refine eN W 2 ?_
        kernel_rfl
      exact (fun _ _ => rfl)
    exact SL_nil
  exact SS_nil
theorem ok_powers_product {C : Cx} {ad : Nat → Addr} (W : Wd C ad) : CO C 1 (ad 1) c_powers_product := by
  refine CO_ofH (sc := (fn 1).scope) (body := (fn 1).body) (ps := [Str.ofString "a", Str.ofString "b"]) (is := [0, 1]) (d := b_powers_product) (dp := 0) W.ok ?_ ?_ (s_powers_product W)
  · exact W.at 1 (by kernel_rfl) [Str.ofString "a", Str.ofString "b"] (fun _ _ _ vals h => by
    obtain _ | ⟨_, _ | ⟨_, _ | ⟨_, _⟩⟩⟩ := vals <;> first | (simp at h; done) | kernel_rfl)
  · exact W.fok [0, 1] [Str.ofString "a", Str.ofString "b"] (by kernel_rfl)

theorem s_gcd {C : Cx} {ad : Nat → Addr} (W : Wd C ad) : Hide (SS C 0 (fn 5).scope (fn 5).body b_gcd) := by
  refine ⟨?_⟩
  refine SS_cons ?_ ?_
  · refine swp W [Str.ofString "a", Str.ofString "b"] ?_ [1, 0] ?_ ?_ ?_ ?_
    · refine SLc ?_ ?_ ?_
      · rfl
      · refine SE_callB W.ok ?_ ?_ (W.no (by kernel_rfl)) (neb (by kernel_rfl)) ?_ opN_abs ?_ ?_ ?_
        · kernel_rfl
        · kernel_rfl
        · kernel_rfl
        · exact (fun _ _ => rfl)
        · exact (fun _ _ => rfl)
        refine SLc ?_ ?_ ?_
        · rfl
        · refine eN W 0 ?_
          kernel_rfl
        exact SL_nil
      refine SLc ?_ ?_ ?_
      · rfl
      · refine SE_callB W.ok ?_ ?_ (W.no (by kernel_rfl)) (neb (by kernel_rfl)) ?_ opN_abs ?_ ?_ ?_
        · kernel_rfl
        · kernel_rfl
        · kernel_rfl
        · exact (fun _ _ => rfl)
        · exact (fun _ _ => rfl)
        refine SLc ?_ ?_ ?_
        · rfl
        · refine eN W 1 ?_
          kernel_rfl
        exact SL_nil
      exact SL_nil
    · kernel_rfl
    · kernel_rfl
    · exact (fun _ => rfl)
    exact (fun env he => by obtain ⟨sc, _, _, _, _, _, _, _, _⟩ := env; have he2 : sc = _ := he; subst he2; kernel_rfl)
  refine SS_cons ?_ ?_
  · refine S1_while 40 ?_ ?_
    · refine ST_cmp op_ne ?_ ?_ ?_
      · refine eN W 1 ?_
        kernel_rfl
      · exact SE_int
      exact rfl
    refine SS_cons ?_ ?_
    · refine swp W [Str.ofString "a", Str.ofString "b"] ?_ [1, 0] ?_ ?_ ?_ ?_
      · refine SLc ?_ ?_ ?_
        · rfl
        · refine eN W 1 ?_
          kernel_rfl
        refine SLc ?_ ?_ ?_
        · rfl
        · refine SE_op2 op_mod ?_ ?_
          · refine eN W 0 ?_
            kernel_rfl
          refine eN W 1 ?_
          kernel_rfl
        exact SL_nil
      · kernel_rfl
      · kernel_rfl
      · exact (fun _ => rfl)
      exact (fun env he => by obtain ⟨sc, _, _, _, _, _, _, _, _⟩ := env; have he2 : sc = _ := he; subst he2; kernel_rfl)
    exact SS_nil
  refine SS_cons ?_ ?_
  · refine S1_ret ?_
    refine eN W 0 ?_
    kernel_rfl
  exact SS_nil
theorem ok_gcd {C : Cx} {ad : Nat → Addr} (W : Wd C ad) : CO C 1 (ad 5) c_gcd := by
  refine CO_ofH (sc := (fn 5).scope) (body := (fn 5).body) (ps := [Str.ofString "a", Str.ofString "b"]) (is := [0, 1]) (d := b_gcd) (dp := 0) W.ok ?_ ?_ (s_gcd W)
  · exact W.at 5 (by kernel_rfl) [Str.ofString "a", Str.ofString "b"] (fun _ _ _ vals h => by
    obtain _ | ⟨_, _ | ⟨_, _ | ⟨_, _⟩⟩⟩ := vals <;> first | (simp at h; done) | kernel_rfl)
  · exact W.fok [0, 1] [Str.ofString "a", Str.ofString "b"] (by kernel_rfl)

theorem s_pivot_row {C : Cx} {ad : Nat → Addr} (W : Wd C ad) : Hide (SS C 0 (fn 15).scope (fn 15).body b_pivot_row) := by
  refine ⟨?_⟩
  refine SS_cons ?_ ?_
  · refine S1_for (ns:=[Str.ofString "row"]) ?_ ?_ ?_ ?_
    · refine SI_any ?_ ?_
      · exact (fun _ _ => rfl)
      refine SE_callT W.ok ?_ ?_ (W.no (by kernel_rfl)) (neb (by kernel_rfl)) ?_ opN_range ?_ ?_ ?_
      · kernel_rfl
      · kernel_rfl
      · kernel_rfl
      · exact (fun _ _ => rfl)
      · exact (fun _ _ => rfl)
      refine SLc ?_ ?_ ?_
      · rfl
      · refine eN W 11 ?_
        kernel_rfl
      refine SLc ?_ ?_ ?_
      · rfl
      · refine SE_callB W.ok ?_ ?_ (W.no (by kernel_rfl)) (neb (by kernel_rfl)) ?_ opN_len ?_ ?_ ?_
        · kernel_rfl
        · kernel_rfl
        · kernel_rfl
        · exact (fun _ _ => rfl)
        · exact (fun _ _ => rfl)
        refine SLc ?_ ?_ ?_
        · rfl
        · refine eN W 0 ?_
          kernel_rfl
        exact SL_nil
      exact SL_nil
    · refine aN W 12 ?_
      kernel_rfl
    · refine SS_cons ?_ ?_
      · refine S1_if ?_ ?_ ?_
        · refine ST_cmp op_ne ?_ ?_ ?_
          · refine SE_item ?_ ?_ ?_
            · exact (fun _ _ => rfl)
            · refine SE_item ?_ ?_ ?_
              · exact (fun _ _ => rfl)
              · refine eN W 0 ?_
                kernel_rfl
              refine eN W 12 ?_
              kernel_rfl
            refine eN W 11 ?_
            kernel_rfl
          · exact SE_int
          exact rfl
        · refine SS_cons ?_ ?_
          · refine S1_ret ?_
            refine eN W 12 ?_
            kernel_rfl
          exact SS_nil
        exact SS_nil
      exact SS_nil
    exact (fun _ _ => rfl)
  refine SS_cons ?_ ?_
  · refine S1_ret ?_
    exact SE_none
  exact SS_nil
theorem ok_pivot_row {C : Cx} {ad : Nat → Addr} (W : Wd C ad) : CO C 1 (ad 15) c_pivot_row := by
  refine CO_ofH (sc := (fn 15).scope) (body := (fn 15).body) (ps := [Str.ofString "a", Str.ofString "step"]) (is := [0, 11]) (d := b_pivot_row) (dp := 0) W.ok ?_ ?_ (s_pivot_row W)
  · exact W.at 15 (by kernel_rfl) [Str.ofString "a", Str.ofString "step"] (fun _ _ _ vals h => by
    obtain _ | ⟨_, _ | ⟨_, _ | ⟨_, _⟩⟩⟩ := vals <;> first | (simp at h; done) | kernel_rfl)
  · exact W.fok [0, 11] [Str.ofString "a", Str.ofString "step"] (by kernel_rfl)

theorem s_bareiss_step {C : Cx} {ad : Nat → Addr} (W : Wd C ad) : Hide (SS C 0 (fn 16).scope (fn 16).body b_bareiss_step) := by
  refine ⟨?_⟩
  refine SS_cons ?_ ?_
  · refine S1_asg ?_ ?_ ?_ ?_ ?_
    · refine SE_item ?_ ?_ ?_
      · exact (fun _ _ => rfl)
      · refine SE_item ?_ ?_ ?_
        · exact (fun _ _ => rfl)
        · refine eN W 0 ?_
          kernel_rfl
        refine eN W 11 ?_
        kernel_rfl
      refine eN W 11 ?_
      kernel_rfl
    · refine tN W 14 ?_
      kernel_rfl
    · exact (fun _ _ => rfl)
    · exact (fun _ _ => rfl)
    exact (fun _ => rfl)
  refine SS_cons ?_ ?_
  · refine S1_for (ns:=[Str.ofString "row"]) ?_ ?_ ?_ ?_
    · refine SI_any ?_ ?_
      · exact (fun _ _ => rfl)
      refine SE_callT W.ok ?_ ?_ (W.no (by kernel_rfl)) (neb (by kernel_rfl)) ?_ opN_range ?_ ?_ ?_
      · kernel_rfl
      · kernel_rfl
      · kernel_rfl
      · exact (fun _ _ => rfl)
      · exact (fun _ _ => rfl)
      refine SLc ?_ ?_ ?_
      · rfl
      · refine SE_op2 op_add ?_ ?_
        · refine eN W 11 ?_
          kernel_rfl
        exact SE_int
      refine SLc ?_ ?_ ?_
      · rfl
      · refine SE_callB W.ok ?_ ?_ (W.no (by kernel_rfl)) (neb (by kernel_rfl)) ?_ opN_len ?_ ?_ ?_
        · kernel_rfl
        · kernel_rfl
        · kernel_rfl
        · exact (fun _ _ => rfl)
        · exact (fun _ _ => rfl)
        refine SLc ?_ ?_ ?_
        · rfl
        · refine eN W 0 ?_
          kernel_rfl
        exact SL_nil
      exact SL_nil
    · refine aN W 12 ?_
      kernel_rfl
    · refine SS_cons ?_ ?_
      · refine S1_asg ?_ ?_ ?_ ?_ ?_
        · refine SE_item ?_ ?_ ?_
          · exact (fun _ _ => rfl)
          · refine SE_item ?_ ?_ ?_
            · exact (fun _ _ => rfl)
            · refine eN W 0 ?_
              kernel_rfl
            refine eN W 12 ?_
            kernel_rfl
          refine eN W 11 ?_
          kernel_rfl
        · refine tN W 15 ?_
          kernel_rfl
        · exact (fun _ _ => rfl)
        · exact (fun _ _ => rfl)
        exact (fun _ => rfl)
      refine SS_cons ?_ ?_
      · refine S1_for (ns:=[Str.ofString "column"]) ?_ ?_ ?_ ?_
        · refine SI_any ?_ ?_
          · exact (fun _ _ => rfl)
          refine SE_callT W.ok ?_ ?_ (W.no (by kernel_rfl)) (neb (by kernel_rfl)) ?_ opN_range ?_ ?_ ?_
          · kernel_rfl
          · kernel_rfl
          · kernel_rfl
          · exact (fun _ _ => rfl)
          · exact (fun _ _ => rfl)
          refine SLc ?_ ?_ ?_
          · rfl
          · refine SE_op2 op_add ?_ ?_
            · refine eN W 11 ?_
              kernel_rfl
            exact SE_int
          refine SLc ?_ ?_ ?_
          · rfl
          · refine SE_callB W.ok ?_ ?_ (W.no (by kernel_rfl)) (neb (by kernel_rfl)) ?_ opN_len ?_ ?_ ?_
            · kernel_rfl
            · kernel_rfl
            · kernel_rfl
            · exact (fun _ _ => rfl)
            · exact (fun _ _ => rfl)
            refine SLc ?_ ?_ ?_
            · rfl
            · refine eN W 0 ?_
              kernel_rfl
            exact SL_nil
          exact SL_nil
        · refine aN W 16 ?_
          kernel_rfl
        · refine SS_cons ?_ ?_
          · refine S1_asg ?_ ?_ ?_ ?_ ?_
            · refine SE_op2 op_div ?_ ?_
              · refine SE_op2 op_sub ?_ ?_
                · refine SE_op2 op_mul ?_ ?_
                  · refine SE_item ?_ ?_ ?_
                    · exact (fun _ _ => rfl)
                    · refine SE_item ?_ ?_ ?_
                      · exact (fun _ _ => rfl)
                      · refine eN W 0 ?_
                        kernel_rfl
                      refine eN W 12 ?_
                      kernel_rfl
                    refine eN W 16 ?_
                    kernel_rfl
                  refine eN W 14 ?_
                  kernel_rfl
                refine SE_op2 op_mul ?_ ?_
                · refine eN W 15 ?_
                  kernel_rfl
                refine SE_item ?_ ?_ ?_
                · exact (fun _ _ => rfl)
                · refine SE_item ?_ ?_ ?_
                  · exact (fun _ _ => rfl)
                  · refine eN W 0 ?_
                    kernel_rfl
                  refine eN W 11 ?_
                  kernel_rfl
                refine eN W 16 ?_
                kernel_rfl
              refine eN W 13 ?_
              kernel_rfl
            · refine TA_sub ?_ ?_
              · refine SE_item ?_ ?_ ?_
                · exact (fun _ _ => rfl)
                · refine eN W 0 ?_
                  kernel_rfl
                refine eN W 12 ?_
                kernel_rfl
              refine eN W 16 ?_
              kernel_rfl
            · exact (fun _ _ => rfl)
            · exact (fun _ _ => rfl)
            exact (fun _ => rfl)
          exact SS_nil
        exact (fun _ _ => rfl)
      refine SS_cons ?_ ?_
      · refine S1_asg ?_ ?_ ?_ ?_ ?_
        · exact SE_int
        · refine TA_sub ?_ ?_
          · refine SE_item ?_ ?_ ?_
            · exact (fun _ _ => rfl)
            · refine eN W 0 ?_
              kernel_rfl
            refine eN W 12 ?_
            kernel_rfl
          refine eN W 11 ?_
          kernel_rfl
        · exact (fun _ _ => rfl)
        · exact (fun _ _ => rfl)
        exact (fun _ => rfl)
      exact SS_nil
    exact (fun _ _ => rfl)
  exact SS_nil
theorem ok_bareiss_step {C : Cx} {ad : Nat → Addr} (W : Wd C ad) : CO C 1 (ad 16) c_bareiss_step := by
  refine CO_ofH (sc := (fn 16).scope) (body := (fn 16).body) (ps := [Str.ofString "a", Str.ofString "step", Str.ofString "ahead"]) (is := [0, 11, 13]) (d := b_bareiss_step) (dp := 0) W.ok ?_ ?_ (s_bareiss_step W)
  · exact W.at 16 (by kernel_rfl) [Str.ofString "a", Str.ofString "step", Str.ofString "ahead"] (fun _ _ _ vals h => by
    obtain _ | ⟨_, _ | ⟨_, _ | ⟨_, _ | ⟨_, _⟩⟩⟩⟩ := vals <;> first | (simp at h; done) | kernel_rfl)
  · exact W.fok [0, 11, 13] [Str.ofString "a", Str.ofString "step", Str.ofString "ahead"] (by kernel_rfl)

theorem s_whole_mul {C : Cx} {ad : Nat → Addr} (W : Wd C ad) : Hide (SS C 0 (fn 19).scope (fn 19).body b_whole_mul) := by
  refine ⟨?_⟩
  refine SS_cons ?_ ?_
  · refine S1_asg ?_ ?_ ?_ ?_ ?_
    · refine SE_if ?_ ?_ ?_
      · refine ST_cmp op_gt ?_ ?_ ?_
        · refine SE_callB W.ok ?_ ?_ (W.no (by kernel_rfl)) (neb (by kernel_rfl)) ?_ opN_len ?_ ?_ ?_
          · kernel_rfl
          · kernel_rfl
          · kernel_rfl
          · exact (fun _ _ => rfl)
          · exact (fun _ _ => rfl)
          refine SLc ?_ ?_ ?_
          · rfl
          · refine eN W 1 ?_
            kernel_rfl
          exact SL_nil
        · exact SE_int
        exact rfl
      · refine SE_callB W.ok ?_ ?_ (W.no (by kernel_rfl)) (neb (by kernel_rfl)) ?_ opN_len ?_ ?_ ?_
        · kernel_rfl
        · kernel_rfl
        · kernel_rfl
        · exact (fun _ _ => rfl)
        · exact (fun _ _ => rfl)
        refine SLc ?_ ?_ ?_
        · rfl
        · refine SE_item ?_ ?_ ?_
          · exact (fun _ _ => rfl)
          · refine eN W 1 ?_
            kernel_rfl
          exact SE_int
        exact SL_nil
      exact SE_int
    · refine tN W 18 ?_
      kernel_rfl
    · exact (fun _ _ => rfl)
    · exact (fun _ _ => rfl)
    exact (fun _ => rfl)
  refine SS_cons ?_ ?_
  · refine S1_ret ?_
    refine SF_freeze ?_
    refine SF_comp1 (ns:=[Str.ofString "row"]) ?_ ?_ ?_ ?_ ?_ ?_ ?_
    · refine cOk W [12] ?_
      kernel_rfl
    · refine SI_any ?_ ?_
      · exact (fun _ _ => rfl)
      refine eN W 0 ?_
      kernel_rfl
    · refine aN W 12 ?_
      kernel_rfl
    · kernel_rfl
    · exact (.inl ⟨rfl, rfl⟩)
    · refine SF_freeze ?_
      refine SF_comp1 (ns:=[Str.ofString "column"]) ?_ ?_ ?_ ?_ ?_ ?_ ?_
      · refine cOk W [16] ?_
        kernel_rfl
      · refine SI_any ?_ ?_
        · exact (fun _ _ => rfl)
        refine SE_callT W.ok ?_ ?_ (W.no (by kernel_rfl)) (neb (by kernel_rfl)) ?_ opN_range ?_ ?_ ?_
        · kernel_rfl
        · kernel_rfl
        · kernel_rfl
        · exact (fun _ _ => rfl)
        · exact (fun _ _ => rfl)
        refine SLc ?_ ?_ ?_
        · rfl
        · refine eN W 18 ?_
          kernel_rfl
        exact SL_nil
      · refine aN W 16 ?_
        kernel_rfl
      · kernel_rfl
      · exact (.inl ⟨rfl, rfl⟩)
      · refine SE_callB W.ok ?_ ?_ (W.no (by kernel_rfl)) (neb (by kernel_rfl)) ?_ opN_sum ?_ ?_ ?_
        · kernel_rfl
        · kernel_rfl
        · kernel_rfl
        · exact (fun _ _ => rfl)
        · exact (fun _ _ => rfl)
        refine SLc ?_ ?_ ?_
        · rfl
        · refine SF_freeze ?_
          refine SF_comp1 (ns:=[Str.ofString "at"]) ?_ ?_ ?_ ?_ ?_ ?_ ?_
          · refine cOk W [2] ?_
            kernel_rfl
          · refine SI_any ?_ ?_
            · exact (fun _ _ => rfl)
            refine SE_callT W.ok ?_ ?_ (W.no (by kernel_rfl)) (neb (by kernel_rfl)) ?_ opN_range ?_ ?_ ?_
            · kernel_rfl
            · kernel_rfl
            · kernel_rfl
            · exact (fun _ _ => rfl)
            · exact (fun _ _ => rfl)
            refine SLc ?_ ?_ ?_
            · rfl
            · refine SE_callB W.ok ?_ ?_ (W.no (by kernel_rfl)) (neb (by kernel_rfl)) ?_ opN_len ?_ ?_ ?_
              · kernel_rfl
              · kernel_rfl
              · kernel_rfl
              · exact (fun _ _ => rfl)
              · exact (fun _ _ => rfl)
              refine SLc ?_ ?_ ?_
              · rfl
              · refine eN W 1 ?_
                kernel_rfl
              exact SL_nil
            exact SL_nil
          · refine aN W 2 ?_
            kernel_rfl
          · kernel_rfl
          · exact (.inl ⟨rfl, rfl⟩)
          · refine SE_op2 op_mul ?_ ?_
            · refine SE_item ?_ ?_ ?_
              · exact (fun _ _ => rfl)
              · refine eN W 12 ?_
                kernel_rfl
              refine eN W 2 ?_
              kernel_rfl
            refine SE_item ?_ ?_ ?_
            · exact (fun _ _ => rfl)
            · refine SE_item ?_ ?_ ?_
              · exact (fun _ _ => rfl)
              · refine eN W 1 ?_
                kernel_rfl
              refine eN W 2 ?_
              kernel_rfl
            refine eN W 16 ?_
            kernel_rfl
          exact (fun _ _ => rfl)
        exact SL_nil
      exact (fun _ _ => rfl)
    exact (fun _ _ => rfl)
  exact SS_nil
theorem ok_whole_mul {C : Cx} {ad : Nat → Addr} (W : Wd C ad) : CO C 1 (ad 19) c_whole_mul := by
  refine CO_ofH (sc := (fn 19).scope) (body := (fn 19).body) (ps := [Str.ofString "a", Str.ofString "b"]) (is := [0, 1]) (d := b_whole_mul) (dp := 0) W.ok ?_ ?_ (s_whole_mul W)
  · exact W.at 19 (by kernel_rfl) [Str.ofString "a", Str.ofString "b"] (fun _ _ _ vals h => by
    obtain _ | ⟨_, _ | ⟨_, _ | ⟨_, _⟩⟩⟩ := vals <;> first | (simp at h; done) | kernel_rfl)
  · exact W.fok [0, 1] [Str.ofString "a", Str.ofString "b"] (by kernel_rfl)

theorem s_whole_turned {C : Cx} {ad : Nat → Addr} (W : Wd C ad) : Hide (SS C 0 (fn 20).scope (fn 20).body b_whole_turned) := by
  refine ⟨?_⟩
  refine SS_cons ?_ ?_
  · refine S1_ret ?_
    refine SF_freeze ?_
    refine SF_comp1 (ns:=[Str.ofString "column"]) ?_ ?_ ?_ ?_ ?_ ?_ ?_
    · refine cOk W [16] ?_
      kernel_rfl
    · refine SI_any ?_ ?_
      · exact (fun _ _ => rfl)
      refine SE_callT W.ok ?_ ?_ (W.no (by kernel_rfl)) (neb (by kernel_rfl)) ?_ opN_range ?_ ?_ ?_
      · kernel_rfl
      · kernel_rfl
      · kernel_rfl
      · exact (fun _ _ => rfl)
      · exact (fun _ _ => rfl)
      refine SLc ?_ ?_ ?_
      · rfl
      · refine eN W 18 ?_
        kernel_rfl
      exact SL_nil
    · refine aN W 16 ?_
      kernel_rfl
    · kernel_rfl
    · exact (.inl ⟨rfl, rfl⟩)
    · refine SF_freeze ?_
      refine SF_comp1 (ns:=[Str.ofString "row"]) ?_ ?_ ?_ ?_ ?_ ?_ ?_
      · refine cOk W [12] ?_
        kernel_rfl
      · refine SI_any ?_ ?_
        · exact (fun _ _ => rfl)
        refine eN W 0 ?_
        kernel_rfl
      · refine aN W 12 ?_
        kernel_rfl
      · kernel_rfl
      · exact (.inl ⟨rfl, rfl⟩)
      · refine SE_item ?_ ?_ ?_
        · exact (fun _ _ => rfl)
        · refine eN W 12 ?_
          kernel_rfl
        refine eN W 16 ?_
        kernel_rfl
      exact (fun _ _ => rfl)
    exact (fun _ _ => rfl)
  exact SS_nil
theorem ok_whole_turned {C : Cx} {ad : Nat → Addr} (W : Wd C ad) : CO C 1 (ad 20) c_whole_turned := by
  refine CO_ofH (sc := (fn 20).scope) (body := (fn 20).body) (ps := [Str.ofString "a", Str.ofString "width"]) (is := [0, 18]) (d := b_whole_turned) (dp := 0) W.ok ?_ ?_ (s_whole_turned W)
  · exact W.at 20 (by kernel_rfl) [Str.ofString "a", Str.ofString "width"] (fun _ _ _ vals h => by
    obtain _ | ⟨_, _ | ⟨_, _ | ⟨_, _⟩⟩⟩ := vals <;> first | (simp at h; done) | kernel_rfl)
  · exact W.fok [0, 18] [Str.ofString "a", Str.ofString "width"] (by kernel_rfl)

theorem s_ztrim {C : Cx} {ad : Nat → Addr} (W : Wd C ad) : Hide (SS C 0 (fn 22).scope (fn 22).body b_ztrim) := by
  refine ⟨?_⟩
  refine SS_cons ?_ ?_
  · refine S1_asg ?_ ?_ ?_ ?_ ?_
    · refine SE_callB W.ok ?_ ?_ (W.no (by kernel_rfl)) (neb (by kernel_rfl)) ?_ opN_len ?_ ?_ ?_
      · kernel_rfl
      · kernel_rfl
      · kernel_rfl
      · exact (fun _ _ => rfl)
      · exact (fun _ _ => rfl)
      refine SLc ?_ ?_ ?_
      · rfl
      · refine eN W 12 ?_
        kernel_rfl
      exact SL_nil
    · refine tN W 19 ?_
      kernel_rfl
    · exact (fun _ _ => rfl)
    · exact (fun _ _ => rfl)
    exact (fun _ => rfl)
  refine SS_cons ?_ ?_
  · refine S1_while 40 ?_ ?_
    · refine ST_and ?_ ?_
      · refine ST_cmp op_gt ?_ ?_ ?_
        · refine eN W 19 ?_
          kernel_rfl
        · exact SE_int
        exact rfl
      refine ST_cmp op_eq ?_ ?_ ?_
      · refine SE_item ?_ ?_ ?_
        · exact (fun _ _ => rfl)
        · refine eN W 12 ?_
          kernel_rfl
        refine SE_op2 op_sub ?_ ?_
        · refine eN W 19 ?_
          kernel_rfl
        exact SE_int
      · exact SE_int
      exact rfl
    refine SS_cons ?_ ?_
    · refine aug W 19 ?_ op_isub ?_
      · kernel_rfl
      exact SE_int
    exact SS_nil
  refine SS_cons ?_ ?_
  · refine S1_ret ?_
    refine SE_callT W.ok ?_ ?_ (W.no (by kernel_rfl)) (neb (by kernel_rfl)) ?_ opN_lst ?_ ?_ ?_
    · kernel_rfl
    · kernel_rfl
    · kernel_rfl
    · exact (fun _ _ => rfl)
    · exact (fun _ _ => rfl)
    refine SLc ?_ ?_ ?_
    · rfl
    · refine SE_slice ?_ ?_ ?_ ?_ ?_
      · refine eN W 12 ?_
        kernel_rfl
      · exact SP_none
      · refine SP_some ?_
        refine eN W 19 ?_
        kernel_rfl
      · exact SP_none
      exact ⟨_, fun _ _ => rfl⟩
    exact SL_nil
  exact SS_nil
theorem ok_ztrim {C : Cx} {ad : Nat → Addr} (W : Wd C ad) : CO C 1 (ad 22) c_ztrim := by
  refine CO_ofH (sc := (fn 22).scope) (body := (fn 22).body) (ps := [Str.ofString "row"]) (is := [12]) (d := b_ztrim) (dp := 0) W.ok ?_ ?_ (s_ztrim W)
  · exact W.at 22 (by kernel_rfl) [Str.ofString "row"] (fun _ _ _ vals h => by
    obtain _ | ⟨_, _ | ⟨_, _⟩⟩ := vals <;> first | (simp at h; done) | kernel_rfl)
  · exact W.fok [12] [Str.ofString "row"] (by kernel_rfl)

theorem s_zneg {C : Cx} {ad : Nat → Addr} (W : Wd C ad) : Hide (SS C 0 (fn 24).scope (fn 24).body b_zneg) := by
  refine ⟨?_⟩
  refine SS_cons ?_ ?_
  · refine S1_ret ?_
    refine SF_freeze ?_
    refine SF_comp1 (ns:=[Str.ofString "number"]) ?_ ?_ ?_ ?_ ?_ ?_ ?_
    · refine cOk W [21] ?_
      kernel_rfl
    · refine SI_any ?_ ?_
      · exact (fun _ _ => rfl)
      refine eN W 20 ?_
      kernel_rfl
    · refine aN W 21 ?_
      kernel_rfl
    · kernel_rfl
    · exact (.inl ⟨rfl, rfl⟩)
    · refine SE_op1 op_neg ?_
      refine eN W 21 ?_
      kernel_rfl
    exact (fun _ _ => rfl)
  exact SS_nil
theorem ok_zneg {C : Cx} {ad : Nat → Addr} (W : Wd C ad) : CO C 1 (ad 24) c_zneg := by
  refine CO_ofH (sc := (fn 24).scope) (body := (fn 24).body) (ps := [Str.ofString "p"]) (is := [20]) (d := b_zneg) (dp := 0) W.ok ?_ ?_ (s_zneg W)
  · exact W.at 24 (by kernel_rfl) [Str.ofString "p"] (fun _ _ _ vals h => by
    obtain _ | ⟨_, _ | ⟨_, _⟩⟩ := vals <;> first | (simp at h; done) | kernel_rfl)
  · exact W.fok [20] [Str.ofString "p"] (by kernel_rfl)

theorem s_zscale {C : Cx} {ad : Nat → Addr} (W : Wd C ad) : Hide (SS C 0 (fn 26).scope (fn 26).body b_zscale) := by
  refine ⟨?_⟩
  refine SS_cons ?_ ?_
  · refine S1_ret ?_
    refine SE_if ?_ ?_ ?_
    · refine ST_cmp op_ne ?_ ?_ ?_
      · refine eN W 22 ?_
        kernel_rfl
      · exact SE_int
      exact rfl
    · refine SF_freeze ?_
      refine SF_comp1 (ns:=[Str.ofString "number"]) ?_ ?_ ?_ ?_ ?_ ?_ ?_
      · refine cOk W [21] ?_
        kernel_rfl
      · refine SI_any ?_ ?_
        · exact (fun _ _ => rfl)
        refine eN W 20 ?_
        kernel_rfl
      · refine aN W 21 ?_
        kernel_rfl
      · kernel_rfl
      · exact (.inl ⟨rfl, rfl⟩)
      · refine SE_op2 op_mul ?_ ?_
        · refine eN W 21 ?_
          kernel_rfl
        refine eN W 22 ?_
        kernel_rfl
      exact (fun _ _ => rfl)
    refine SE_list ?_
    exact SL_nil
  exact SS_nil
theorem ok_zscale {C : Cx} {ad : Nat → Addr} (W : Wd C ad) : CO C 1 (ad 26) c_zscale := by
  refine CO_ofH (sc := (fn 26).scope) (body := (fn 26).body) (ps := [Str.ofString "p", Str.ofString "k"]) (is := [20, 22]) (d := b_zscale) (dp := 0) W.ok ?_ ?_ (s_zscale W)
  · exact W.at 26 (by kernel_rfl) [Str.ofString "p", Str.ofString "k"] (fun _ _ _ vals h => by
    obtain _ | ⟨_, _ | ⟨_, _ | ⟨_, _⟩⟩⟩ := vals <;> first | (simp at h; done) | kernel_rfl)
  · exact W.fok [20, 22] [Str.ofString "p", Str.ofString "k"] (by kernel_rfl)

theorem s_zraise {C : Cx} {ad : Nat → Addr} (W : Wd C ad) : Hide (SS C 0 (fn 27).scope (fn 27).body b_zraise) := by
  refine ⟨?_⟩
  refine SS_cons ?_ ?_
  · refine S1_ret ?_
    refine SE_if ?_ ?_ ?_
    · refine ST_cmp op_gt ?_ ?_ ?_
      · refine SE_callB W.ok ?_ ?_ (W.no (by kernel_rfl)) (neb (by kernel_rfl)) ?_ opN_len ?_ ?_ ?_
        · kernel_rfl
        · kernel_rfl
        · kernel_rfl
        · exact (fun _ _ => rfl)
        · exact (fun _ _ => rfl)
        refine SLc ?_ ?_ ?_
        · rfl
        · refine eN W 20 ?_
          kernel_rfl
        exact SL_nil
      · exact SE_int
      exact rfl
    · refine SE_op2 op_add ?_ ?_
      · refine SF_freeze ?_
        refine SF_rep ?_ ?_
        · refine SE_list ?_
          refine SLc ?_ ?_ ?_
          · rfl
          · exact SE_int
          exact SL_nil
        refine eN W 23 ?_
        kernel_rfl
      refine SE_callT W.ok ?_ ?_ (W.no (by kernel_rfl)) (neb (by kernel_rfl)) ?_ opN_lst ?_ ?_ ?_
      · kernel_rfl
      · kernel_rfl
      · kernel_rfl
      · exact (fun _ _ => rfl)
      · exact (fun _ _ => rfl)
      refine SLc ?_ ?_ ?_
      · rfl
      · refine eN W 20 ?_
        kernel_rfl
      exact SL_nil
    refine SE_list ?_
    exact SL_nil
  exact SS_nil
theorem ok_zraise {C : Cx} {ad : Nat → Addr} (W : Wd C ad) : CO C 1 (ad 27) c_zraise := by
  refine CO_ofH (sc := (fn 27).scope) (body := (fn 27).body) (ps := [Str.ofString "p", Str.ofString "many"]) (is := [20, 23]) (d := b_zraise) (dp := 0) W.ok ?_ ?_ (s_zraise W)
  · exact W.at 27 (by kernel_rfl) [Str.ofString "p", Str.ofString "many"] (fun _ _ _ vals h => by
    obtain _ | ⟨_, _ | ⟨_, _ | ⟨_, _⟩⟩⟩ := vals <;> first | (simp at h; done) | kernel_rfl)
  · exact W.fok [20, 23] [Str.ofString "p", Str.ofString "many"] (by kernel_rfl)

theorem s_zmul {C : Cx} {ad : Nat → Addr} (W : Wd C ad) : Hide (SS C 0 (fn 28).scope (fn 28).body b_zmul) := by
  refine ⟨?_⟩
  refine SS_cons ?_ ?_
  · refine S1_if ?_ ?_ ?_
    · refine ST_or ?_ ?_
      · refine ST_cmp op_eq ?_ ?_ ?_
        · refine SE_callB W.ok ?_ ?_ (W.no (by kernel_rfl)) (neb (by kernel_rfl)) ?_ opN_len ?_ ?_ ?_
          · kernel_rfl
          · kernel_rfl
          · kernel_rfl
          · exact (fun _ _ => rfl)
          · exact (fun _ _ => rfl)
          refine SLc ?_ ?_ ?_
          · rfl
          · refine eN W 0 ?_
            kernel_rfl
          exact SL_nil
        · exact SE_int
        exact rfl
      refine ST_cmp op_eq ?_ ?_ ?_
      · refine SE_callB W.ok ?_ ?_ (W.no (by kernel_rfl)) (neb (by kernel_rfl)) ?_ opN_len ?_ ?_ ?_
        · kernel_rfl
        · kernel_rfl
        · kernel_rfl
        · exact (fun _ _ => rfl)
        · exact (fun _ _ => rfl)
        refine SLc ?_ ?_ ?_
        · rfl
        · refine eN W 1 ?_
          kernel_rfl
        exact SL_nil
      · exact SE_int
      exact rfl
    · refine SS_cons ?_ ?_
      · refine S1_ret ?_
        refine SE_list ?_
        exact SL_nil
      exact SS_nil
    exact SS_nil
  refine SS_cons ?_ ?_
  · refine S1_asg ?_ ?_ ?_ ?_ ?_
    · refine SF_thaw ?_
      refine SF_rep ?_ ?_
      · refine SE_list ?_
        refine SLc ?_ ?_ ?_
        · rfl
        · exact SE_int
        exact SL_nil
      refine SE_op2 op_sub ?_ ?_
      · refine SE_op2 op_add ?_ ?_
        · refine SE_callB W.ok ?_ ?_ (W.no (by kernel_rfl)) (neb (by kernel_rfl)) ?_ opN_len ?_ ?_ ?_
          · kernel_rfl
          · kernel_rfl
          · kernel_rfl
          · exact (fun _ _ => rfl)
          · exact (fun _ _ => rfl)
          refine SLc ?_ ?_ ?_
          · rfl
          · refine eN W 0 ?_
            kernel_rfl
          exact SL_nil
        refine SE_callB W.ok ?_ ?_ (W.no (by kernel_rfl)) (neb (by kernel_rfl)) ?_ opN_len ?_ ?_ ?_
        · kernel_rfl
        · kernel_rfl
        · kernel_rfl
        · exact (fun _ _ => rfl)
        · exact (fun _ _ => rfl)
        refine SLc ?_ ?_ ?_
        · rfl
        · refine eN W 1 ?_
          kernel_rfl
        exact SL_nil
      exact SE_int
    · refine tN W 7 ?_
      kernel_rfl
    · exact (fun _ _ => rfl)
    · exact (fun _ _ => rfl)
    exact (fun _ => rfl)
  refine SS_cons ?_ ?_
  · refine S1_for (ns:=[Str.ofString "one", Str.ofString "left"]) ?_ ?_ ?_ ?_
    · refine SI_enum W.ok ?_ ?_ (W.no (by kernel_rfl)) (neb (by kernel_rfl)) ?_ ?_ ?_
      · kernel_rfl
      · kernel_rfl
      · kernel_rfl
      · exact (fun _ _ => rfl)
      refine eN W 0 ?_
      kernel_rfl
    · refine SA_tuple W.nodup ?_
      refine aC W 3 ?_ ?_
      · kernel_rfl
      refine aC W 24 ?_ ?_
      · kernel_rfl
      exact NamesAre.nil
    · refine SS_cons ?_ ?_
      · refine S1_if ?_ ?_ ?_
        · refine ST_cmp op_ne ?_ ?_ ?_
          · refine eN W 24 ?_
            kernel_rfl
          · exact SE_int
          exact rfl
        · refine SS_cons ?_ ?_
          · refine S1_for (ns:=[Str.ofString "other", Str.ofString "right"]) ?_ ?_ ?_ ?_
            · refine SI_enum W.ok ?_ ?_ (W.no (by kernel_rfl)) (neb (by kernel_rfl)) ?_ ?_ ?_
              · kernel_rfl
              · kernel_rfl
              · kernel_rfl
              · exact (fun _ _ => rfl)
              refine eN W 1 ?_
              kernel_rfl
            · refine SA_tuple W.nodup ?_
              refine aC W 25 ?_ ?_
              · kernel_rfl
              refine aC W 26 ?_ ?_
              · kernel_rfl
              exact NamesAre.nil
            · refine SS_cons ?_ ?_
              · refine S1_augSub ?_ ?_ op_iadd ?_ ?_
                · refine eN W 7 ?_
                  kernel_rfl
                · refine SE_op2 op_add ?_ ?_
                  · refine eN W 3 ?_
                    kernel_rfl
                  refine eN W 25 ?_
                  kernel_rfl
                · refine SE_op2 op_mul ?_ ?_
                  · refine eN W 24 ?_
                    kernel_rfl
                  refine eN W 26 ?_
                  kernel_rfl
                exact (fun _ _ _ => rfl)
              exact SS_nil
            exact (fun _ _ => rfl)
          exact SS_nil
        exact SS_nil
      exact SS_nil
    exact (fun _ _ => rfl)
  refine SS_cons ?_ ?_
  · refine S1_ret ?_
    refine eN W 7 ?_
    kernel_rfl
  exact SS_nil
theorem ok_zmul {C : Cx} {ad : Nat → Addr} (W : Wd C ad) : CO C 1 (ad 28) c_zmul := by
  refine CO_ofH (sc := (fn 28).scope) (body := (fn 28).body) (ps := [Str.ofString "a", Str.ofString "b"]) (is := [0, 1]) (d := b_zmul) (dp := 0) W.ok ?_ ?_ (s_zmul W)
  · exact W.at 28 (by kernel_rfl) [Str.ofString "a", Str.ofString "b"] (fun _ _ _ vals h => by
    obtain _ | ⟨_, _ | ⟨_, _ | ⟨_, _⟩⟩⟩ := vals <;> first | (simp at h; done) | kernel_rfl)
  · exact W.fok [0, 1] [Str.ofString "a", Str.ofString "b"] (by kernel_rfl)

end Mine
end

section
set_option autoImplicit false
set_option Elab.async false
set_option maxRecDepth 100000
namespace Mine
theorem s_check_bottom {C : Cx} {ad : Nat → Addr} (W : Wd C ad) : Hide (SS C 0 (fn 30).scope (fn 30).body b_check_bottom) := by
  refine ⟨?_⟩
  refine SS_cons ?_ ?_
  · refine S1_if ?_ ?_ ?_
    · refine ST_cmp op_eq ?_ ?_ ?_
      · refine SE_callB W.ok ?_ ?_ (W.no (by kernel_rfl)) (neb (by kernel_rfl)) ?_ opN_len ?_ ?_ ?_
        · kernel_rfl
        · kernel_rfl
        · kernel_rfl
        · exact (fun _ _ => rfl)
        · exact (fun _ _ => rfl)
        refine SLc ?_ ?_ ?_
        · rfl
        · refine eN W 20 ?_
          kernel_rfl
        exact SL_nil
      · exact SE_int
      exact rfl
    · refine SS_cons ?_ ?_
      · exact S1_never
      exact SS_nil
    exact SS_nil
  exact SS_nil
theorem ok_check_bottom {C : Cx} {ad : Nat → Addr} (W : Wd C ad) : CO C 1 (ad 30) c_check_bottom := by
  refine CO_ofH (sc := (fn 30).scope) (body := (fn 30).body) (ps := [Str.ofString "p"]) (is := [20]) (d := b_check_bottom) (dp := 0) W.ok ?_ ?_ (s_check_bottom W)
  · exact W.at 30 (by kernel_rfl) [Str.ofString "p"] (fun _ _ _ vals h => by
    obtain _ | ⟨_, _ | ⟨_, _⟩⟩ := vals <;> first | (simp at h; done) | kernel_rfl)
  · exact W.fok [20] [Str.ofString "p"] (by kernel_rfl)

theorem s_law_draw {C : Cx} {ad : Nat → Addr} (W : Wd C ad) : Hide (SS C 0 (fn 33).scope (fn 33).body b_law_draw) := by
  refine ⟨?_⟩
  refine SS_cons ?_ ?_
  · refine S1_asg ?_ ?_ ?_ ?_ ?_
    · refine SE_item ?_ ?_ ?_
      · exact (fun _ _ => rfl)
      · refine eN W 29 ?_
        kernel_rfl
      exact SE_int
    · refine tN W 30 ?_
      kernel_rfl
    · exact (fun _ _ => rfl)
    · exact (fun _ _ => rfl)
    exact (fun _ => rfl)
  refine SS_cons ?_ ?_
  · refine S1_asg ?_ ?_ ?_ ?_ ?_
    · refine SE_op2 op_add ?_ ?_
      · refine eN W 30 ?_
        kernel_rfl
      exact SE_int
    · refine TA_sub ?_ ?_
      · refine eN W 29 ?_
        kernel_rfl
      exact SE_int
    · exact (fun _ _ => rfl)
    · exact (fun _ _ => rfl)
    exact (fun _ => rfl)
  refine SS_cons ?_ ?_
  · refine S1_if ?_ ?_ ?_
    · refine ST_cmp op_lt ?_ ?_ ?_
      · refine eN W 30 ?_
        kernel_rfl
      · refine SE_callB W.ok ?_ ?_ (W.no (by kernel_rfl)) (neb (by kernel_rfl)) ?_ opN_len ?_ ?_ ?_
        · kernel_rfl
        · kernel_rfl
        · kernel_rfl
        · exact (fun _ _ => rfl)
        · exact (fun _ _ => rfl)
        refine SLc ?_ ?_ ?_
        · rfl
        · refine SE_item ?_ ?_ ?_
          · exact (fun _ _ => rfl)
          · refine eN W 29 ?_
            kernel_rfl
          exact SE_int
        exact SL_nil
      exact rfl
    · refine SS_cons ?_ ?_
      · refine S1_ret ?_
        refine SE_op2 op_mod ?_ ?_
        · refine SE_callB W.ok ?_ ?_ (W.no (by kernel_rfl)) (neb (by kernel_rfl)) ?_ opN_abs ?_ ?_ ?_
          · kernel_rfl
          · kernel_rfl
          · kernel_rfl
          · exact (fun _ _ => rfl)
          · exact (fun _ _ => rfl)
          refine SLc ?_ ?_ ?_
          · rfl
          · refine SE_item ?_ ?_ ?_
            · exact (fun _ _ => rfl)
            · refine SE_item ?_ ?_ ?_
              · exact (fun _ _ => rfl)
              · refine eN W 29 ?_
                kernel_rfl
              exact SE_int
            refine eN W 30 ?_
            kernel_rfl
          exact SL_nil
        refine eN W 23 ?_
        kernel_rfl
      exact SS_nil
    exact SS_nil
  refine SS_cons ?_ ?_
  · refine S1_ret ?_
    refine SE_op2 op_mod ?_ ?_
    · refine SE_item ?_ ?_ ?_
      · exact (fun _ _ => rfl)
      · refine SE_tuple ?_
        refine SLc ?_ ?_ ?_
        · rfl
        · exact SE_int
        refine SLc ?_ ?_ ?_
        · rfl
        · exact SE_int
        refine SLc ?_ ?_ ?_
        · rfl
        · exact SE_int
        refine SLc ?_ ?_ ?_
        · rfl
        · exact SE_int
        exact SL_nil
      refine SE_op2 op_mod ?_ ?_
      · refine eN W 30 ?_
        kernel_rfl
      exact SE_int
    refine eN W 23 ?_
    kernel_rfl
  exact SS_nil
theorem ok_law_draw {C : Cx} {ad : Nat → Addr} (W : Wd C ad) : CO C 1 (ad 33) c_law_draw := by
  refine CO_ofH (sc := (fn 33).scope) (body := (fn 33).body) (ps := [Str.ofString "pool", Str.ofString "many"]) (is := [29, 23]) (d := b_law_draw) (dp := 0) W.ok ?_ ?_ (s_law_draw W)
  · exact W.at 33 (by kernel_rfl) [Str.ofString "pool", Str.ofString "many"] (fun _ _ _ vals h => by
    obtain _ | ⟨_, _ | ⟨_, _ | ⟨_, _⟩⟩⟩ := vals <;> first | (simp at h; done) | kernel_rfl)
  · exact W.fok [29, 23] [Str.ofString "pool", Str.ofString "many"] (by kernel_rfl)

theorem s_law_keeps {C : Cx} {ad : Nat → Addr} (W : Wd C ad) : Hide (SS C 0 (fn 37).scope (fn 37).body b_law_keeps) := by
  refine ⟨?_⟩
  refine SS_cons ?_ ?_
  · refine S1_asg ?_ ?_ ?_ ?_ ?_
    · exact SE_int
    · refine tN W 7 ?_
      kernel_rfl
    · exact (fun _ _ => rfl)
    · exact (fun _ _ => rfl)
    exact (fun _ => rfl)
  refine SS_cons ?_ ?_
  · refine S1_for (ns:=[Str.ofString "at", Str.ofString "size"]) ?_ ?_ ?_ ?_
    · refine SI_enum W.ok ?_ ?_ (W.no (by kernel_rfl)) (neb (by kernel_rfl)) ?_ ?_ ?_
      · kernel_rfl
      · kernel_rfl
      · kernel_rfl
      · exact (fun _ _ => rfl)
      refine eN W 35 ?_
      kernel_rfl
    · refine SA_tuple W.nodup ?_
      refine aC W 2 ?_ ?_
      · kernel_rfl
      refine aC W 19 ?_ ?_
      · kernel_rfl
      exact NamesAre.nil
    · refine SS_cons ?_ ?_
      · refine S1_asg ?_ ?_ ?_ ?_ ?_
        · refine SE_op2 op_mul ?_ ?_
          · refine SE_op2 op_mul ?_ ?_
            · refine eN W 7 ?_
              kernel_rfl
            refine eN W 19 ?_
            kernel_rfl
          refine method1 ?_ ?_ ?_ ?_ ?_ F.slot_list_count F.type_list_count op_count ?_
          · refine SE_slice ?_ ?_ ?_ ?_ ?_
            · refine eN W 35 ?_
              kernel_rfl
            · exact SP_none
            · refine SP_some ?_
              refine SE_op2 op_add ?_ ?_
              · refine eN W 2 ?_
                kernel_rfl
              exact SE_int
            · exact SP_none
            exact ⟨_, fun _ _ => rfl⟩
          · refine eN W 19 ?_
            kernel_rfl
          · exact (fun _ => rfl)
          · kernel_rfl
          · exact (fun _ => rfl)
          exact (fun _ _ _ _ h => count_lst h)
        · refine tN W 7 ?_
          kernel_rfl
        · exact (fun _ _ => rfl)
        · exact (fun _ _ => rfl)
        exact (fun _ => rfl)
      exact SS_nil
    exact (fun _ _ => rfl)
  refine SS_cons ?_ ?_
  · refine S1_ret ?_
    refine eN W 7 ?_
    kernel_rfl
  exact SS_nil
theorem ok_law_keeps {C : Cx} {ad : Nat → Addr} (W : Wd C ad) : CO C 1 (ad 37) c_law_keeps := by
  refine CO_ofH (sc := (fn 37).scope) (body := (fn 37).body) (ps := [Str.ofString "sizes"]) (is := [35]) (d := b_law_keeps) (dp := 0) W.ok ?_ ?_ (s_law_keeps W)
  · exact W.at 37 (by kernel_rfl) [Str.ofString "sizes"] (fun _ _ _ vals h => by
    obtain _ | ⟨_, _ | ⟨_, _⟩⟩ := vals <;> first | (simp at h; done) | kernel_rfl)
  · exact W.fok [35] [Str.ofString "sizes"] (by kernel_rfl)

theorem s_law_product {C : Cx} {ad : Nat → Addr} (W : Wd C ad) : Hide (SS C 0 (fn 38).scope (fn 38).body b_law_product) := by
  refine ⟨?_⟩
  refine SS_cons ?_ ?_
  · refine S1_asg ?_ ?_ ?_ ?_ ?_
    · exact SE_int
    · refine tN W 7 ?_
      kernel_rfl
    · exact (fun _ _ => rfl)
    · exact (fun _ _ => rfl)
    exact (fun _ => rfl)
  refine SS_cons ?_ ?_
  · refine S1_for (ns:=[Str.ofString "number"]) ?_ ?_ ?_ ?_
    · refine SI_any ?_ ?_
      · exact (fun _ _ => rfl)
      refine eN W 40 ?_
      kernel_rfl
    · refine aN W 21 ?_
      kernel_rfl
    · refine SS_cons ?_ ?_
      · refine S1_asg ?_ ?_ ?_ ?_ ?_
        · refine SE_op2 op_mul ?_ ?_
          · refine eN W 7 ?_
            kernel_rfl
          refine eN W 21 ?_
          kernel_rfl
        · refine tN W 7 ?_
          kernel_rfl
        · exact (fun _ _ => rfl)
        · exact (fun _ _ => rfl)
        exact (fun _ => rfl)
      exact SS_nil
    exact (fun _ _ => rfl)
  refine SS_cons ?_ ?_
  · refine S1_ret ?_
    refine eN W 7 ?_
    kernel_rfl
  exact SS_nil
theorem ok_law_product {C : Cx} {ad : Nat → Addr} (W : Wd C ad) : CO C 1 (ad 38) c_law_product := by
  refine CO_ofH (sc := (fn 38).scope) (body := (fn 38).body) (ps := [Str.ofString "numbers"]) (is := [40]) (d := b_law_product) (dp := 0) W.ok ?_ ?_ (s_law_product W)
  · exact W.at 38 (by kernel_rfl) [Str.ofString "numbers"] (fun _ _ _ vals h => by
    obtain _ | ⟨_, _ | ⟨_, _⟩⟩ := vals <;> first | (simp at h; done) | kernel_rfl)
  · exact W.fok [40] [Str.ofString "numbers"] (by kernel_rfl)

theorem s_law_diagonal {C : Cx} {ad : Nat → Addr} (W : Wd C ad) : Hide (SS C 0 (fn 39).scope (fn 39).body b_law_diagonal) := by
  refine ⟨?_⟩
  refine SS_cons ?_ ?_
  · refine S1_ret ?_
    refine SF_freeze ?_
    refine SF_comp1 (ns:=[Str.ofString "i", Str.ofString "number"]) ?_ ?_ ?_ ?_ ?_ ?_ ?_
    · refine cOk W [42, 21] ?_
      kernel_rfl
    · refine SI_enum W.ok ?_ ?_ (W.no (by kernel_rfl)) (neb (by kernel_rfl)) ?_ ?_ ?_
      · kernel_rfl
      · kernel_rfl
      · kernel_rfl
      · exact (fun _ _ => rfl)
      refine eN W 40 ?_
      kernel_rfl
    · refine SA_tuple W.nodup ?_
      refine aC W 42 ?_ ?_
      · kernel_rfl
      refine aC W 21 ?_ ?_
      · kernel_rfl
      exact NamesAre.nil
    · kernel_rfl
    · exact (.inl ⟨rfl, rfl⟩)
    · refine SF_freeze ?_
      refine SF_comp1 (ns:=[Str.ofString "j"]) ?_ ?_ ?_ ?_ ?_ ?_ ?_
      · refine cOk W [41] ?_
        kernel_rfl
      · refine SI_any ?_ ?_
        · exact (fun _ _ => rfl)
        refine SE_callT W.ok ?_ ?_ (W.no (by kernel_rfl)) (neb (by kernel_rfl)) ?_ opN_range ?_ ?_ ?_
        · kernel_rfl
        · kernel_rfl
        · kernel_rfl
        · exact (fun _ _ => rfl)
        · exact (fun _ _ => rfl)
        refine SLc ?_ ?_ ?_
        · rfl
        · refine SE_callB W.ok ?_ ?_ (W.no (by kernel_rfl)) (neb (by kernel_rfl)) ?_ opN_len ?_ ?_ ?_
          · kernel_rfl
          · kernel_rfl
          · kernel_rfl
          · exact (fun _ _ => rfl)
          · exact (fun _ _ => rfl)
          refine SLc ?_ ?_ ?_
          · rfl
          · refine eN W 40 ?_
            kernel_rfl
          exact SL_nil
        exact SL_nil
      · refine aN W 41 ?_
        kernel_rfl
      · kernel_rfl
      · exact (.inl ⟨rfl, rfl⟩)
      · refine SE_if ?_ ?_ ?_
        · refine ST_cmp op_eq ?_ ?_ ?_
          · refine eN W 42 ?_
            kernel_rfl
          · refine eN W 41 ?_
            kernel_rfl
          exact rfl
        · refine eN W 21 ?_
          kernel_rfl
        exact SE_int
      exact (fun _ _ => rfl)
    exact (fun _ _ => rfl)
  exact SS_nil
theorem ok_law_diagonal {C : Cx} {ad : Nat → Addr} (W : Wd C ad) : CO C 1 (ad 39) c_law_diagonal := by
  refine CO_ofH (sc := (fn 39).scope) (body := (fn 39).body) (ps := [Str.ofString "numbers"]) (is := [40]) (d := b_law_diagonal) (dp := 0) W.ok ?_ ?_ (s_law_diagonal W)
  · exact W.at 39 (by kernel_rfl) [Str.ofString "numbers"] (fun _ _ _ vals h => by
    obtain _ | ⟨_, _ | ⟨_, _⟩⟩ := vals <;> first | (simp at h; done) | kernel_rfl)
  · exact W.fok [40] [Str.ofString "numbers"] (by kernel_rfl)

theorem s_law_sequences {C : Cx} {ad : Nat → Addr} (W : Wd C ad) : Hide (SS C 0 (fn 40).scope (fn 40).body b_law_sequences) := by
  refine ⟨?_⟩
  refine SS_cons ?_ ?_
  · refine S1_ret ?_
    refine SE_list ?_
    refine SLc ?_ ?_ ?_
    · rfl
    · refine SE_tuple ?_
      refine SLc ?_ ?_ ?_
      · rfl
      · exact SE_int
      refine SLc ?_ ?_ ?_
      · rfl
      · exact SE_int
      refine SLc ?_ ?_ ?_
      · rfl
      · exact SE_int
      refine SLc ?_ ?_ ?_
      · rfl
      · exact SE_int
      exact SL_nil
    refine SLc ?_ ?_ ?_
    · rfl
    · refine SE_tuple ?_
      refine SLc ?_ ?_ ?_
      · rfl
      · exact SE_int
      refine SLc ?_ ?_ ?_
      · rfl
      · exact SE_int
      refine SLc ?_ ?_ ?_
      · rfl
      · exact SE_int
      refine SLc ?_ ?_ ?_
      · rfl
      · exact SE_int
      exact SL_nil
    refine SLc ?_ ?_ ?_
    · rfl
    · refine SE_tuple ?_
      refine SLc ?_ ?_ ?_
      · rfl
      · exact SE_int
      refine SLc ?_ ?_ ?_
      · rfl
      · exact SE_int
      refine SLc ?_ ?_ ?_
      · rfl
      · exact SE_int
      refine SLc ?_ ?_ ?_
      · rfl
      · exact SE_int
      exact SL_nil
    refine SLc ?_ ?_ ?_
    · rfl
    · refine SE_tuple ?_
      refine SLc ?_ ?_ ?_
      · rfl
      · exact SE_int
      refine SLc ?_ ?_ ?_
      · rfl
      · exact SE_int
      refine SLc ?_ ?_ ?_
      · rfl
      · exact SE_int
      refine SLc ?_ ?_ ?_
      · rfl
      · refine SE_op1 op_neg ?_
        exact SE_int
      exact SL_nil
    refine SLc ?_ ?_ ?_
    · rfl
    · refine SE_tuple ?_
      refine SLc ?_ ?_ ?_
      · rfl
      · exact SE_int
      refine SLc ?_ ?_ ?_
      · rfl
      · exact SE_int
      refine SLc ?_ ?_ ?_
      · rfl
      · exact SE_int
      refine SLc ?_ ?_ ?_
      · rfl
      · refine SE_op1 op_neg ?_
        exact SE_int
      exact SL_nil
    refine SLc ?_ ?_ ?_
    · rfl
    · refine SE_tuple ?_
      refine SLc ?_ ?_ ?_
      · rfl
      · exact SE_int
      refine SLc ?_ ?_ ?_
      · rfl
      · exact SE_int
      refine SLc ?_ ?_ ?_
      · rfl
      · exact SE_int
      refine SLc ?_ ?_ ?_
      · rfl
      · refine SE_op1 op_neg ?_
        exact SE_int
      exact SL_nil
    exact SL_nil
  exact SS_nil
theorem ok_law_sequences {C : Cx} {ad : Nat → Addr} (W : Wd C ad) : CO C 1 (ad 40) c_law_sequences := by
  refine CO_ofH (sc := (fn 40).scope) (body := (fn 40).body) (ps := []) (is := []) (d := b_law_sequences) (dp := 0) W.ok ?_ ?_ (s_law_sequences W)
  · exact W.at 40 (by kernel_rfl) [] (fun _ _ _ vals h => by
    obtain rfl := List.length_eq_zero_iff.mp h
    kernel_rfl)
  · exact W.fok [] [] (by kernel_rfl)

theorem s_rat {C : Cx} {ad : Nat → Addr} (W : Wd C ad) : Hide (SS C 1 (fn 8).scope (fn 8).body b_rat) := by
  refine ⟨?_⟩
  have h_gcd : CO C 1 (ad 5) c_gcd := (ok_gcd W).mono (by decide)
  refine SS_cons ?_ ?_
  · refine S1_if ?_ ?_ ?_
    · refine ST_cmp op_eq ?_ ?_ ?_
      · refine eN W 5 ?_
        kernel_rfl
      · exact SE_int
      exact rfl
    · refine SS_cons ?_ ?_
      · exact S1_never
      exact SS_nil
    exact SS_nil
  refine SS_cons ?_ ?_
  · refine S1_asg ?_ ?_ ?_ ?_ ?_
    · refine SE_if ?_ ?_ ?_
      · refine ST_cmp op_gt ?_ ?_ ?_
        · refine eN W 5 ?_
          kernel_rfl
        · exact SE_int
        exact rfl
      · refine eC W 5 ?_ ?_ ?_ ?_ h_gcd ?_ ?_
        · kernel_rfl
        · kernel_rfl
        · kernel_rfl
        · kernel_rfl
        · exact (fun _ _ => rfl)
        refine SLc ?_ ?_ ?_
        · rfl
        · refine eN W 4 ?_
          kernel_rfl
        refine SLc ?_ ?_ ?_
        · rfl
        · refine eN W 5 ?_
          kernel_rfl
        exact SL_nil
      refine SE_op2 op_sub ?_ ?_
      · exact SE_int
      refine eC W 5 ?_ ?_ ?_ ?_ h_gcd ?_ ?_
      · kernel_rfl
      · kernel_rfl
      · kernel_rfl
      · kernel_rfl
      · exact (fun _ _ => rfl)
      refine SLc ?_ ?_ ?_
      · rfl
      · refine eN W 4 ?_
        kernel_rfl
      refine SLc ?_ ?_ ?_
      · rfl
      · refine eN W 5 ?_
        kernel_rfl
      exact SL_nil
    · refine tN W 6 ?_
      kernel_rfl
    · exact (fun _ _ => rfl)
    · exact (fun _ _ => rfl)
    exact (fun _ => rfl)
  refine SS_cons ?_ ?_
  · refine S1_ret ?_
    refine SE_tuple ?_
    refine SLc ?_ ?_ ?_
    · rfl
    · refine SE_op2 op_div ?_ ?_
      · refine eN W 4 ?_
        kernel_rfl
      refine eN W 6 ?_
      kernel_rfl
    refine SLc ?_ ?_ ?_
    · rfl
    · refine SE_op2 op_div ?_ ?_
      · refine eN W 5 ?_
        kernel_rfl
      refine eN W 6 ?_
      kernel_rfl
    exact SL_nil
  exact SS_nil
theorem ok_rat {C : Cx} {ad : Nat → Addr} (W : Wd C ad) : CO C 2 (ad 8) c_rat := by
  refine CO_ofH (sc := (fn 8).scope) (body := (fn 8).body) (ps := [Str.ofString "top", Str.ofString "bottom"]) (is := [4, 5]) (d := b_rat) (dp := 1) W.ok ?_ ?_ (s_rat W)
  · exact W.at 8 (by kernel_rfl) [Str.ofString "top", Str.ofString "bottom"] (fun _ _ _ vals h => by
    obtain _ | ⟨_, _ | ⟨_, _ | ⟨_, _⟩⟩⟩ := vals <;> first | (simp at h; done) | kernel_rfl)
  · exact W.fok [4, 5] [Str.ofString "top", Str.ofString "bottom"] (by kernel_rfl)

theorem s_determinant {C : Cx} {ad : Nat → Addr} (W : Wd C ad) : Hide (SS C 1 (fn 17).scope (fn 17).body b_determinant) := by
  refine ⟨?_⟩
  have h_bareiss_step : CO C 1 (ad 16) c_bareiss_step := (ok_bareiss_step W).mono (by decide)
  have h_pivot_row : CO C 1 (ad 15) c_pivot_row := (ok_pivot_row W).mono (by decide)
  refine SS_cons ?_ ?_
  · refine S1_if ?_ ?_ ?_
    · refine ST_cmp op_ne ?_ ?_ ?_
      · refine SF_freeze ?_
        refine SF_comp1 (ns:=[Str.ofString "row"]) ?_ ?_ ?_ ?_ ?_ ?_ ?_
        · refine cOk W [12] ?_
          kernel_rfl
        · refine SI_any ?_ ?_
          · exact (fun _ _ => rfl)
          refine eN W 0 ?_
          kernel_rfl
        · refine aN W 12 ?_
          kernel_rfl
        · kernel_rfl
        · refine .inr ⟨_, rfl, ?_⟩
          refine ST_cmp op_ne ?_ ?_ ?_
          · refine SE_callB W.ok ?_ ?_ (W.no (by kernel_rfl)) (neb (by kernel_rfl)) ?_ opN_len ?_ ?_ ?_
            · kernel_rfl
            · kernel_rfl
            · kernel_rfl
            · exact (fun _ _ => rfl)
            · exact (fun _ _ => rfl)
            refine SLc ?_ ?_ ?_
            · rfl
            · refine eN W 12 ?_
              kernel_rfl
            exact SL_nil
          · refine SE_callB W.ok ?_ ?_ (W.no (by kernel_rfl)) (neb (by kernel_rfl)) ?_ opN_len ?_ ?_ ?_
            · kernel_rfl
            · kernel_rfl
            · kernel_rfl
            · exact (fun _ _ => rfl)
            · exact (fun _ _ => rfl)
            refine SLc ?_ ?_ ?_
            · rfl
            · refine eN W 0 ?_
              kernel_rfl
            exact SL_nil
          exact rfl
        · refine eN W 12 ?_
          kernel_rfl
        exact (fun _ _ => rfl)
      · refine SE_list ?_
        exact SL_nil
      exact rfl
    · refine SS_cons ?_ ?_
      · exact S1_never
      exact SS_nil
    exact SS_nil
  refine SS_cons ?_ ?_
  · refine swp W [Str.ofString "found", Str.ofString "sign", Str.ofString "ahead"] ?_ [13, 17, 7] ?_ ?_ ?_ ?_
    · refine SLc ?_ ?_ ?_
      · rfl
      · refine SF_thaw ?_
        refine SF_comp1 (ns:=[Str.ofString "row"]) ?_ ?_ ?_ ?_ ?_ ?_ ?_
        · refine cOk W [12] ?_
          kernel_rfl
        · refine SI_any ?_ ?_
          · exact (fun _ _ => rfl)
          refine eN W 0 ?_
          kernel_rfl
        · refine aN W 12 ?_
          kernel_rfl
        · kernel_rfl
        · exact (.inl ⟨rfl, rfl⟩)
        · refine SF_thaw ?_
          refine SF_callList W.ok ?_ ?_ (W.no (by kernel_rfl)) (neb (by kernel_rfl)) ?_ ?_ ?_
          · kernel_rfl
          · kernel_rfl
          · kernel_rfl
          · exact (fun _ _ => rfl)
          refine SLc ?_ ?_ ?_
          · rfl
          · refine eN W 12 ?_
            kernel_rfl
          exact SL_nil
        exact (fun _ _ => rfl)
      refine SLc ?_ ?_ ?_
      · rfl
      · exact SE_int
      refine SLc ?_ ?_ ?_
      · rfl
      · exact SE_int
      exact SL_nil
    · kernel_rfl
    · kernel_rfl
    · exact (fun _ => rfl)
    exact (fun env he => by obtain ⟨sc, _, _, _, _, _, _, _, _⟩ := env; have he2 : sc = _ := he; subst he2; kernel_rfl)
  refine SS_cons ?_ ?_
  · refine S1_for (ns:=[Str.ofString "step"]) ?_ ?_ ?_ ?_
    · refine SI_any ?_ ?_
      · exact (fun _ _ => rfl)
      refine SE_callT W.ok ?_ ?_ (W.no (by kernel_rfl)) (neb (by kernel_rfl)) ?_ opN_range ?_ ?_ ?_
      · kernel_rfl
      · kernel_rfl
      · kernel_rfl
      · exact (fun _ _ => rfl)
      · exact (fun _ _ => rfl)
      refine SLc ?_ ?_ ?_
      · rfl
      · refine SE_callB W.ok ?_ ?_ (W.no (by kernel_rfl)) (neb (by kernel_rfl)) ?_ opN_len ?_ ?_ ?_
        · kernel_rfl
        · kernel_rfl
        · kernel_rfl
        · exact (fun _ _ => rfl)
        · exact (fun _ _ => rfl)
        refine SLc ?_ ?_ ?_
        · rfl
        · refine eN W 0 ?_
          kernel_rfl
        exact SL_nil
      exact SL_nil
    · refine aN W 11 ?_
      kernel_rfl
    · refine SS_cons ?_ ?_
      · refine S1_asg ?_ ?_ ?_ ?_ ?_
        · refine eC W 15 ?_ ?_ ?_ ?_ h_pivot_row ?_ ?_
          · kernel_rfl
          · kernel_rfl
          · kernel_rfl
          · kernel_rfl
          · exact (fun _ _ => rfl)
          refine SLc ?_ ?_ ?_
          · rfl
          · refine eN W 7 ?_
            kernel_rfl
          refine SLc ?_ ?_ ?_
          · rfl
          · refine eN W 11 ?_
            kernel_rfl
          exact SL_nil
        · refine tN W 12 ?_
          kernel_rfl
        · exact (fun _ _ => rfl)
        · exact (fun _ _ => rfl)
        exact (fun _ => rfl)
      refine SS_cons ?_ ?_
      · refine S1_if ?_ ?_ ?_
        · refine ST_cmp op_is ?_ ?_ ?_
          · refine eN W 12 ?_
            kernel_rfl
          · exact SE_none
          exact rfl
        · refine SS_cons ?_ ?_
          · refine S1_ret ?_
            exact SE_int
          exact SS_nil
        exact SS_nil
      refine SS_cons ?_ ?_
      · refine S1_if ?_ ?_ ?_
        · refine ST_cmp op_ne ?_ ?_ ?_
          · refine eN W 12 ?_
            kernel_rfl
          · refine eN W 11 ?_
            kernel_rfl
          exact rfl
        · refine SS_cons ?_ ?_
          · refine S1_tup ?_ ?_ ?_ ?_
            · refine SLc ?_ ?_ ?_
              · rfl
              · refine SE_item ?_ ?_ ?_
                · exact (fun _ _ => rfl)
                · refine eN W 7 ?_
                  kernel_rfl
                refine eN W 11 ?_
                kernel_rfl
              refine SLc ?_ ?_ ?_
              · rfl
              · refine SE_item ?_ ?_ ?_
                · exact (fun _ _ => rfl)
                · refine eN W 7 ?_
                  kernel_rfl
                refine eN W 12 ?_
                kernel_rfl
              exact SL_nil
            · refine TAs.cons ?_ ?_ ?_
              · exact (fun _ => rfl)
              · refine TA_sub ?_ ?_
                · refine eN W 7 ?_
                  kernel_rfl
                refine eN W 12 ?_
                kernel_rfl
              refine TAs.cons ?_ ?_ ?_
              · exact (fun _ => rfl)
              · refine TA_sub ?_ ?_
                · refine eN W 7 ?_
                  kernel_rfl
                refine eN W 11 ?_
                kernel_rfl
              exact TAs.nil
            · exact (fun _ => rfl)
            exact (fun env he => by obtain ⟨sc, _, _, _, _, _, _, _, _⟩ := env; have he2 : sc = _ := he; subst he2; kernel_rfl)
          refine SS_cons ?_ ?_
          · refine S1_asg ?_ ?_ ?_ ?_ ?_
            · refine SE_op1 op_neg ?_
              refine eN W 17 ?_
              kernel_rfl
            · refine tN W 17 ?_
              kernel_rfl
            · exact (fun _ _ => rfl)
            · exact (fun _ _ => rfl)
            exact (fun _ => rfl)
          exact SS_nil
        exact SS_nil
      refine SS_cons ?_ ?_
      · refine S1_expr ?_ ?_ ?_
        · refine eC W 16 ?_ ?_ ?_ ?_ h_bareiss_step ?_ ?_
          · kernel_rfl
          · kernel_rfl
          · kernel_rfl
          · kernel_rfl
          · exact (fun _ _ => rfl)
          refine SLc ?_ ?_ ?_
          · rfl
          · refine eN W 7 ?_
            kernel_rfl
          refine SLc ?_ ?_ ?_
          · rfl
          · refine eN W 11 ?_
            kernel_rfl
          refine SLc ?_ ?_ ?_
          · rfl
          · refine eN W 13 ?_
            kernel_rfl
          exact SL_nil
        · kernel_rfl
        exact (fun _ => rfl)
      refine SS_cons ?_ ?_
      · refine S1_asg ?_ ?_ ?_ ?_ ?_
        · refine SE_item ?_ ?_ ?_
          · exact (fun _ _ => rfl)
          · refine SE_item ?_ ?_ ?_
            · exact (fun _ _ => rfl)
            · refine eN W 7 ?_
              kernel_rfl
            refine eN W 11 ?_
            kernel_rfl
          refine eN W 11 ?_
          kernel_rfl
        · refine tN W 13 ?_
          kernel_rfl
        · exact (fun _ _ => rfl)
        · exact (fun _ _ => rfl)
        exact (fun _ => rfl)
      exact SS_nil
    exact (fun _ _ => rfl)
  refine SS_cons ?_ ?_
  · refine S1_ret ?_
    refine SE_op2 op_mul ?_ ?_
    · refine eN W 17 ?_
      kernel_rfl
    refine eN W 13 ?_
    kernel_rfl
  exact SS_nil
theorem ok_determinant {C : Cx} {ad : Nat → Addr} (W : Wd C ad) : CO C 2 (ad 17) c_determinant := by
  refine CO_ofH (sc := (fn 17).scope) (body := (fn 17).body) (ps := [Str.ofString "a"]) (is := [0]) (d := b_determinant) (dp := 1) W.ok ?_ ?_ (s_determinant W)
  · exact W.at 17 (by kernel_rfl) [Str.ofString "a"] (fun _ _ _ vals h => by
    obtain _ | ⟨_, _ | ⟨_, _⟩⟩ := vals <;> first | (simp at h; done) | kernel_rfl)
  · exact W.fok [0] [Str.ofString "a"] (by kernel_rfl)

theorem s_zadd {C : Cx} {ad : Nat → Addr} (W : Wd C ad) : Hide (SS C 1 (fn 23).scope (fn 23).body b_zadd) := by
  refine ⟨?_⟩
  have h_ztrim : CO C 1 (ad 22) c_ztrim := (ok_ztrim W).mono (by decide)
  refine SS_cons ?_ ?_
  · refine S1_asg ?_ ?_ ?_ ?_ ?_
    · refine SE_callB W.ok ?_ ?_ (W.no (by kernel_rfl)) (neb (by kernel_rfl)) ?_ opN_max ?_ ?_ ?_
      · kernel_rfl
      · kernel_rfl
      · kernel_rfl
      · exact (fun _ _ => rfl)
      · exact (fun _ _ => rfl)
      refine SLc ?_ ?_ ?_
      · rfl
      · refine SE_callB W.ok ?_ ?_ (W.no (by kernel_rfl)) (neb (by kernel_rfl)) ?_ opN_len ?_ ?_ ?_
        · kernel_rfl
        · kernel_rfl
        · kernel_rfl
        · exact (fun _ _ => rfl)
        · exact (fun _ _ => rfl)
        refine SLc ?_ ?_ ?_
        · rfl
        · refine eN W 0 ?_
          kernel_rfl
        exact SL_nil
      refine SLc ?_ ?_ ?_
      · rfl
      · refine SE_callB W.ok ?_ ?_ (W.no (by kernel_rfl)) (neb (by kernel_rfl)) ?_ opN_len ?_ ?_ ?_
        · kernel_rfl
        · kernel_rfl
        · kernel_rfl
        · exact (fun _ _ => rfl)
        · exact (fun _ _ => rfl)
        refine SLc ?_ ?_ ?_
        · rfl
        · refine eN W 1 ?_
          kernel_rfl
        exact SL_nil
      exact SL_nil
    · refine tN W 19 ?_
      kernel_rfl
    · exact (fun _ _ => rfl)
    · exact (fun _ _ => rfl)
    exact (fun _ => rfl)
  refine SS_cons ?_ ?_
  · refine S1_ret ?_
    refine eC W 22 ?_ ?_ ?_ ?_ h_ztrim ?_ ?_
    · kernel_rfl
    · kernel_rfl
    · kernel_rfl
    · kernel_rfl
    · exact (fun _ _ => rfl)
    refine SLc ?_ ?_ ?_
    · rfl
    · refine SF_freeze ?_
      refine SF_comp1 (ns:=[Str.ofString "at"]) ?_ ?_ ?_ ?_ ?_ ?_ ?_
      · refine cOk W [2] ?_
        kernel_rfl
      · refine SI_any ?_ ?_
        · exact (fun _ _ => rfl)
        refine SE_callT W.ok ?_ ?_ (W.no (by kernel_rfl)) (neb (by kernel_rfl)) ?_ opN_range ?_ ?_ ?_
        · kernel_rfl
        · kernel_rfl
        · kernel_rfl
        · exact (fun _ _ => rfl)
        · exact (fun _ _ => rfl)
        refine SLc ?_ ?_ ?_
        · rfl
        · refine eN W 19 ?_
          kernel_rfl
        exact SL_nil
      · refine aN W 2 ?_
        kernel_rfl
      · kernel_rfl
      · exact (.inl ⟨rfl, rfl⟩)
      · refine SE_op2 op_add ?_ ?_
        · refine SE_if ?_ ?_ ?_
          · refine ST_cmp op_lt ?_ ?_ ?_
            · refine eN W 2 ?_
              kernel_rfl
            · refine SE_callB W.ok ?_ ?_ (W.no (by kernel_rfl)) (neb (by kernel_rfl)) ?_ opN_len ?_ ?_ ?_
              · kernel_rfl
              · kernel_rfl
              · kernel_rfl
              · exact (fun _ _ => rfl)
              · exact (fun _ _ => rfl)
              refine SLc ?_ ?_ ?_
              · rfl
              · refine eN W 0 ?_
                kernel_rfl
              exact SL_nil
            exact rfl
          · refine SE_item ?_ ?_ ?_
            · exact (fun _ _ => rfl)
            · refine eN W 0 ?_
              kernel_rfl
            refine eN W 2 ?_
            kernel_rfl
          exact SE_int
        refine SE_if ?_ ?_ ?_
        · refine ST_cmp op_lt ?_ ?_ ?_
          · refine eN W 2 ?_
            kernel_rfl
          · refine SE_callB W.ok ?_ ?_ (W.no (by kernel_rfl)) (neb (by kernel_rfl)) ?_ opN_len ?_ ?_ ?_
            · kernel_rfl
            · kernel_rfl
            · kernel_rfl
            · exact (fun _ _ => rfl)
            · exact (fun _ _ => rfl)
            refine SLc ?_ ?_ ?_
            · rfl
            · refine eN W 1 ?_
              kernel_rfl
            exact SL_nil
          exact rfl
        · refine SE_item ?_ ?_ ?_
          · exact (fun _ _ => rfl)
          · refine eN W 1 ?_
            kernel_rfl
          refine eN W 2 ?_
          kernel_rfl
        exact SE_int
      exact (fun _ _ => rfl)
    exact SL_nil
  exact SS_nil
theorem ok_zadd {C : Cx} {ad : Nat → Addr} (W : Wd C ad) : CO C 2 (ad 23) c_zadd := by
  refine CO_ofH (sc := (fn 23).scope) (body := (fn 23).body) (ps := [Str.ofString "a", Str.ofString "b"]) (is := [0, 1]) (d := b_zadd) (dp := 1) W.ok ?_ ?_ (s_zadd W)
  · exact W.at 23 (by kernel_rfl) [Str.ofString "a", Str.ofString "b"] (fun _ _ _ vals h => by
    obtain _ | ⟨_, _ | ⟨_, _ | ⟨_, _⟩⟩⟩ := vals <;> first | (simp at h; done) | kernel_rfl)
  · exact W.fok [0, 1] [Str.ofString "a", Str.ofString "b"] (by kernel_rfl)

theorem s_law_alternants {C : Cx} {ad : Nat → Addr} (W : Wd C ad) : Hide (SS C 1 (fn 41).scope (fn 41).body b_law_alternants) := by
  refine ⟨?_⟩
  have h_law_sequences : CO C 1 (ad 40) c_law_sequences := (ok_law_sequences W).mono (by decide)
  refine SS_cons ?_ ?_
  · refine S1_asg ?_ ?_ ?_ ?_ ?_
    · exact SE_emptyDict W.ok
    · refine tN W 7 ?_
      kernel_rfl
    · exact (fun _ _ => rfl)
    · exact (fun _ _ => rfl)
    exact (fun _ => rfl)
  refine SS_cons ?_ ?_
  · refine S1_for (ns:=[Str.ofString "powers", Str.ofString "number"]) ?_ ?_ ?_ ?_
    · refine SI_lst ?_
      refine eN W 43 ?_
      kernel_rfl
    · refine SA_tuple W.nodup ?_
      refine aC W 8 ?_ ?_
      · kernel_rfl
      refine aC W 21 ?_ ?_
      · kernel_rfl
      exact NamesAre.nil
    · refine SS_cons ?_ ?_
      · refine S1_for (ns:=[Str.ofString "one", Str.ofString "other", Str.ofString "third", Str.ofString "sign"]) ?_ ?_ ?_ ?_
        · refine SI_lst ?_
          refine eC0 W 40 ?_ ?_ ?_ ?_ h_law_sequences
          · kernel_rfl
          · kernel_rfl
          · kernel_rfl
          kernel_rfl
        · refine SA_tuple W.nodup ?_
          refine aC W 3 ?_ ?_
          · kernel_rfl
          refine aC W 25 ?_ ?_
          · kernel_rfl
          refine aC W 44 ?_ ?_
          · kernel_rfl
          refine aC W 17 ?_ ?_
          · kernel_rfl
          exact NamesAre.nil
        · refine SS_cons ?_ ?_
          · refine S1_if ?_ ?_ ?_
            · refine ST_cmp op_ne ?_ ?_ ?_
              · refine eN W 21 ?_
                kernel_rfl
              · exact SE_int
              exact rfl
            · refine SS_cons ?_ ?_
              · refine S1_asg ?_ ?_ ?_ ?_ ?_
                · refine SE_tuple ?_
                  refine SLc ?_ ?_ ?_
                  · rfl
                  · refine SE_op2 op_mul ?_ ?_
                    · refine eN W 17 ?_
                      kernel_rfl
                    refine eN W 21 ?_
                    kernel_rfl
                  refine SLc ?_ ?_ ?_
                  · rfl
                  · exact SE_int
                  exact SL_nil
                · refine TA_sub ?_ ?_
                  · refine eN W 7 ?_
                    kernel_rfl
                  refine SE_tuple ?_
                  refine SLc ?_ ?_ ?_
                  · rfl
                  · refine SE_item ?_ ?_ ?_
                    · exact (fun _ _ => rfl)
                    · refine eN W 8 ?_
                      kernel_rfl
                    refine eN W 3 ?_
                    kernel_rfl
                  refine SLc ?_ ?_ ?_
                  · rfl
                  · refine SE_item ?_ ?_ ?_
                    · exact (fun _ _ => rfl)
                    · refine eN W 8 ?_
                      kernel_rfl
                    refine eN W 25 ?_
                    kernel_rfl
                  refine SLc ?_ ?_ ?_
                  · rfl
                  · refine SE_item ?_ ?_ ?_
                    · exact (fun _ _ => rfl)
                    · refine eN W 8 ?_
                      kernel_rfl
                    refine eN W 44 ?_
                    kernel_rfl
                  exact SL_nil
                · exact (fun _ _ => rfl)
                · exact (fun _ _ => rfl)
                exact (fun _ => rfl)
              exact SS_nil
            exact SS_nil
          exact SS_nil
        exact (fun _ _ => rfl)
      exact SS_nil
    exact (fun _ _ => rfl)
  refine SS_cons ?_ ?_
  · refine S1_ret ?_
    refine eN W 7 ?_
    kernel_rfl
  exact SS_nil
theorem ok_law_alternants {C : Cx} {ad : Nat → Addr} (W : Wd C ad) : CO C 2 (ad 41) c_law_alternants := by
  refine CO_ofH (sc := (fn 41).scope) (body := (fn 41).body) (ps := [Str.ofString "rows"]) (is := [43]) (d := b_law_alternants) (dp := 1) W.ok ?_ ?_ (s_law_alternants W)
  · exact W.at 41 (by kernel_rfl) [Str.ofString "rows"] (fun _ _ _ vals h => by
    obtain _ | ⟨_, _ | ⟨_, _⟩⟩ := vals <;> first | (simp at h; done) | kernel_rfl)
  · exact W.fok [43] [Str.ofString "rows"] (by kernel_rfl)

end Mine
end

section
set_option autoImplicit false
set_option Elab.async false
set_option maxRecDepth 100000
namespace Mine
theorem s_radd {C : Cx} {ad : Nat → Addr} (W : Wd C ad) : Hide (SS C 2 (fn 9).scope (fn 9).body b_radd) := by
  refine ⟨?_⟩
  have h_rat : CO C 2 (ad 8) c_rat := (ok_rat W).mono (by decide)
  refine SS_cons ?_ ?_
  · refine S1_ret ?_
    refine eC W 8 ?_ ?_ ?_ ?_ h_rat ?_ ?_
    · kernel_rfl
    · kernel_rfl
    · kernel_rfl
    · kernel_rfl
    · exact (fun _ _ => rfl)
    refine SLc ?_ ?_ ?_
    · rfl
    · refine SE_op2 op_add ?_ ?_
      · refine SE_op2 op_mul ?_ ?_
        · refine SE_item ?_ ?_ ?_
          · exact (fun _ _ => rfl)
          · refine eN W 0 ?_
            kernel_rfl
          exact SE_int
        refine SE_item ?_ ?_ ?_
        · exact (fun _ _ => rfl)
        · refine eN W 1 ?_
          kernel_rfl
        exact SE_int
      refine SE_op2 op_mul ?_ ?_
      · refine SE_item ?_ ?_ ?_
        · exact (fun _ _ => rfl)
        · refine eN W 1 ?_
          kernel_rfl
        exact SE_int
      refine SE_item ?_ ?_ ?_
      · exact (fun _ _ => rfl)
      · refine eN W 0 ?_
        kernel_rfl
      exact SE_int
    refine SLc ?_ ?_ ?_
    · rfl
    · refine SE_op2 op_mul ?_ ?_
      · refine SE_item ?_ ?_ ?_
        · exact (fun _ _ => rfl)
        · refine eN W 0 ?_
          kernel_rfl
        exact SE_int
      refine SE_item ?_ ?_ ?_
      · exact (fun _ _ => rfl)
      · refine eN W 1 ?_
        kernel_rfl
      exact SE_int
    exact SL_nil
  exact SS_nil
theorem ok_radd {C : Cx} {ad : Nat → Addr} (W : Wd C ad) : CO C 3 (ad 9) c_radd := by
  refine CO_ofH (sc := (fn 9).scope) (body := (fn 9).body) (ps := [Str.ofString "a", Str.ofString "b"]) (is := [0, 1]) (d := b_radd) (dp := 2) W.ok ?_ ?_ (s_radd W)
  · exact W.at 9 (by kernel_rfl) [Str.ofString "a", Str.ofString "b"] (fun _ _ _ vals h => by
    obtain _ | ⟨_, _ | ⟨_, _ | ⟨_, _⟩⟩⟩ := vals <;> first | (simp at h; done) | kernel_rfl)
  · exact W.fok [0, 1] [Str.ofString "a", Str.ofString "b"] (by kernel_rfl)

theorem s_rmul {C : Cx} {ad : Nat → Addr} (W : Wd C ad) : Hide (SS C 2 (fn 10).scope (fn 10).body b_rmul) := by
  refine ⟨?_⟩
  have h_rat : CO C 2 (ad 8) c_rat := (ok_rat W).mono (by decide)
  refine SS_cons ?_ ?_
  · refine S1_ret ?_
    refine eC W 8 ?_ ?_ ?_ ?_ h_rat ?_ ?_
    · kernel_rfl
    · kernel_rfl
    · kernel_rfl
    · kernel_rfl
    · exact (fun _ _ => rfl)
    refine SLc ?_ ?_ ?_
    · rfl
    · refine SE_op2 op_mul ?_ ?_
      · refine SE_item ?_ ?_ ?_
        · exact (fun _ _ => rfl)
        · refine eN W 0 ?_
          kernel_rfl
        exact SE_int
      refine SE_item ?_ ?_ ?_
      · exact (fun _ _ => rfl)
      · refine eN W 1 ?_
        kernel_rfl
      exact SE_int
    refine SLc ?_ ?_ ?_
    · rfl
    · refine SE_op2 op_mul ?_ ?_
      · refine SE_item ?_ ?_ ?_
        · exact (fun _ _ => rfl)
        · refine eN W 0 ?_
          kernel_rfl
        exact SE_int
      refine SE_item ?_ ?_ ?_
      · exact (fun _ _ => rfl)
      · refine eN W 1 ?_
        kernel_rfl
      exact SE_int
    exact SL_nil
  exact SS_nil
theorem ok_rmul {C : Cx} {ad : Nat → Addr} (W : Wd C ad) : CO C 3 (ad 10) c_rmul := by
  refine CO_ofH (sc := (fn 10).scope) (body := (fn 10).body) (ps := [Str.ofString "a", Str.ofString "b"]) (is := [0, 1]) (d := b_rmul) (dp := 2) W.ok ?_ ?_ (s_rmul W)
  · exact W.at 10 (by kernel_rfl) [Str.ofString "a", Str.ofString "b"] (fun _ _ _ vals h => by
    obtain _ | ⟨_, _ | ⟨_, _ | ⟨_, _⟩⟩⟩ := vals <;> first | (simp at h; done) | kernel_rfl)
  · exact W.fok [0, 1] [Str.ofString "a", Str.ofString "b"] (by kernel_rfl)

theorem s_zsub {C : Cx} {ad : Nat → Addr} (W : Wd C ad) : Hide (SS C 2 (fn 25).scope (fn 25).body b_zsub) := by
  refine ⟨?_⟩
  have h_zadd : CO C 2 (ad 23) c_zadd := (ok_zadd W).mono (by decide)
  have h_zneg : CO C 2 (ad 24) c_zneg := (ok_zneg W).mono (by decide)
  refine SS_cons ?_ ?_
  · refine S1_ret ?_
    refine eC W 23 ?_ ?_ ?_ ?_ h_zadd ?_ ?_
    · kernel_rfl
    · kernel_rfl
    · kernel_rfl
    · kernel_rfl
    · exact (fun _ _ => rfl)
    refine SLc ?_ ?_ ?_
    · rfl
    · refine eN W 0 ?_
      kernel_rfl
    refine SLc ?_ ?_ ?_
    · rfl
    · refine eC W 24 ?_ ?_ ?_ ?_ h_zneg ?_ ?_
      · kernel_rfl
      · kernel_rfl
      · kernel_rfl
      · kernel_rfl
      · exact (fun _ _ => rfl)
      refine SLc ?_ ?_ ?_
      · rfl
      · refine eN W 1 ?_
        kernel_rfl
      exact SL_nil
    exact SL_nil
  exact SS_nil
theorem ok_zsub {C : Cx} {ad : Nat → Addr} (W : Wd C ad) : CO C 3 (ad 25) c_zsub := by
  refine CO_ofH (sc := (fn 25).scope) (body := (fn 25).body) (ps := [Str.ofString "a", Str.ofString "b"]) (is := [0, 1]) (d := b_zsub) (dp := 2) W.ok ?_ ?_ (s_zsub W)
  · exact W.at 25 (by kernel_rfl) [Str.ofString "a", Str.ofString "b"] (fun _ _ _ vals h => by
    obtain _ | ⟨_, _ | ⟨_, _ | ⟨_, _⟩⟩⟩ := vals <;> first | (simp at h; done) | kernel_rfl)
  · exact W.fok [0, 1] [Str.ofString "a", Str.ofString "b"] (by kernel_rfl)

theorem s_add_term {C : Cx} {ad : Nat → Addr} (W : Wd C ad) : Hide (SS C 3 (fn 12).scope (fn 12).body b_add_term) := by
  refine ⟨?_⟩
  have h_radd : CO C 3 (ad 9) c_radd := (ok_radd W).mono (by decide)
  refine SS_cons ?_ ?_
  · refine S1_asg ?_ ?_ ?_ ?_ ?_
    · refine SE_if ?_ ?_ ?_
      · refine ST_cmp op_in ?_ ?_ ?_
        · refine eN W 8 ?_
          kernel_rfl
        · refine eN W 7 ?_
          kernel_rfl
        exact rfl
      · refine eC W 9 ?_ ?_ ?_ ?_ h_radd ?_ ?_
        · kernel_rfl
        · kernel_rfl
        · kernel_rfl
        · kernel_rfl
        · exact (fun _ _ => rfl)
        refine SLc ?_ ?_ ?_
        · rfl
        · refine SE_item ?_ ?_ ?_
          · exact (fun _ _ => rfl)
          · refine eN W 7 ?_
            kernel_rfl
          refine eN W 8 ?_
          kernel_rfl
        refine SLc ?_ ?_ ?_
        · rfl
        · refine eN W 9 ?_
          kernel_rfl
        exact SL_nil
      refine eN W 9 ?_
      kernel_rfl
    · refine tN W 10 ?_
      kernel_rfl
    · exact (fun _ _ => rfl)
    · exact (fun _ _ => rfl)
    exact (fun _ => rfl)
  refine SS_cons ?_ ?_
  · refine S1_if ?_ ?_ ?_
    · refine ST_cmp op_eq ?_ ?_ ?_
      · refine eN W 10 ?_
        kernel_rfl
      · refine eR0 W ?_ ?_
        · kernel_rfl
        kernel_rfl
      exact rfl
    · refine SS_cons ?_ ?_
      · refine S1_pop ?_ ?_ ?_ ?_ ?_ ?_ ?_
        · refine eN W 7 ?_
          kernel_rfl
        · refine eN W 8 ?_
          kernel_rfl
        · exact (fun _ => rfl)
        · kernel_rfl
        · exact (fun _ => rfl)
        · kernel_rfl
        exact (fun _ => rfl)
      exact SS_nil
    refine SS_cons ?_ ?_
    · refine S1_asg ?_ ?_ ?_ ?_ ?_
      · refine eN W 10 ?_
        kernel_rfl
      · refine TA_sub ?_ ?_
        · refine eN W 7 ?_
          kernel_rfl
        refine eN W 8 ?_
        kernel_rfl
      · exact (fun _ _ => rfl)
      · exact (fun _ _ => rfl)
      exact (fun _ => rfl)
    exact SS_nil
  exact SS_nil
theorem ok_add_term {C : Cx} {ad : Nat → Addr} (W : Wd C ad) : CO C 4 (ad 12) c_add_term := by
  refine CO_ofH (sc := (fn 12).scope) (body := (fn 12).body) (ps := [Str.ofString "found", Str.ofString "powers", Str.ofString "rational"]) (is := [7, 8, 9]) (d := b_add_term) (dp := 3) W.ok ?_ ?_ (s_add_term W)
  · exact W.at 12 (by kernel_rfl) [Str.ofString "found", Str.ofString "powers", Str.ofString "rational"] (fun _ _ _ vals h => by
    obtain _ | ⟨_, _ | ⟨_, _ | ⟨_, _ | ⟨_, _⟩⟩⟩⟩ := vals <;> first | (simp at h; done) | kernel_rfl)
  · exact W.fok [7, 8, 9] [Str.ofString "found", Str.ofString "powers", Str.ofString "rational"] (by kernel_rfl)

theorem s_zexact {C : Cx} {ad : Nat → Addr} (W : Wd C ad) : Hide (SS C 3 (fn 31).scope (fn 31).body b_zexact) := by
  refine ⟨?_⟩
  have h_check_bottom : CO C 3 (ad 30) c_check_bottom := (ok_check_bottom W).mono (by decide)
  have h_zraise : CO C 3 (ad 27) c_zraise := (ok_zraise W).mono (by decide)
  have h_zscale : CO C 3 (ad 26) c_zscale := (ok_zscale W).mono (by decide)
  have h_zsub : CO C 3 (ad 25) c_zsub := (ok_zsub W).mono (by decide)
  have h_ztrim : CO C 3 (ad 22) c_ztrim := (ok_ztrim W).mono (by decide)
  refine SS_cons ?_ ?_
  · refine S1_expr ?_ ?_ ?_
    · refine eC W 30 ?_ ?_ ?_ ?_ h_check_bottom ?_ ?_
      · kernel_rfl
      · kernel_rfl
      · kernel_rfl
      · kernel_rfl
      · exact (fun _ _ => rfl)
      refine SLc ?_ ?_ ?_
      · rfl
      · refine eN W 1 ?_
        kernel_rfl
      exact SL_nil
    · kernel_rfl
    exact (fun _ => rfl)
  refine SS_cons ?_ ?_
  · refine swp W [Str.ofString "rest", Str.ofString "found"] ?_ [7, 27] ?_ ?_ ?_ ?_
    · refine SLc ?_ ?_ ?_
      · rfl
      · refine SE_callT W.ok ?_ ?_ (W.no (by kernel_rfl)) (neb (by kernel_rfl)) ?_ opN_lst ?_ ?_ ?_
        · kernel_rfl
        · kernel_rfl
        · kernel_rfl
        · exact (fun _ _ => rfl)
        · exact (fun _ _ => rfl)
        refine SLc ?_ ?_ ?_
        · rfl
        · refine eN W 0 ?_
          kernel_rfl
        exact SL_nil
      refine SLc ?_ ?_ ?_
      · rfl
      · refine SF_thaw ?_
        refine SF_rep ?_ ?_
        · refine SE_list ?_
          refine SLc ?_ ?_ ?_
          · rfl
          · exact SE_int
          exact SL_nil
        refine SE_callB W.ok ?_ ?_ (W.no (by kernel_rfl)) (neb (by kernel_rfl)) ?_ opN_max ?_ ?_ ?_
        · kernel_rfl
        · kernel_rfl
        · kernel_rfl
        · exact (fun _ _ => rfl)
        · exact (fun _ _ => rfl)
        refine SLc ?_ ?_ ?_
        · rfl
        · exact SE_int
        refine SLc ?_ ?_ ?_
        · rfl
        · refine SE_op2 op_add ?_ ?_
          · refine SE_op2 op_sub ?_ ?_
            · refine SE_callB W.ok ?_ ?_ (W.no (by kernel_rfl)) (neb (by kernel_rfl)) ?_ opN_len ?_ ?_ ?_
              · kernel_rfl
              · kernel_rfl
              · kernel_rfl
              · exact (fun _ _ => rfl)
              · exact (fun _ _ => rfl)
              refine SLc ?_ ?_ ?_
              · rfl
              · refine eN W 0 ?_
                kernel_rfl
              exact SL_nil
            refine SE_callB W.ok ?_ ?_ (W.no (by kernel_rfl)) (neb (by kernel_rfl)) ?_ opN_len ?_ ?_ ?_
            · kernel_rfl
            · kernel_rfl
            · kernel_rfl
            · exact (fun _ _ => rfl)
            · exact (fun _ _ => rfl)
            refine SLc ?_ ?_ ?_
            · rfl
            · refine eN W 1 ?_
              kernel_rfl
            exact SL_nil
          exact SE_int
        exact SL_nil
      exact SL_nil
    · kernel_rfl
    · kernel_rfl
    · exact (fun _ => rfl)
    exact (fun env he => by obtain ⟨sc, _, _, _, _, _, _, _, _⟩ := env; have he2 : sc = _ := he; subst he2; kernel_rfl)
  refine SS_cons ?_ ?_
  · refine S1_while 40 ?_ ?_
    · refine ST_cmp op_ge ?_ ?_ ?_
      · refine SE_callB W.ok ?_ ?_ (W.no (by kernel_rfl)) (neb (by kernel_rfl)) ?_ opN_len ?_ ?_ ?_
        · kernel_rfl
        · kernel_rfl
        · kernel_rfl
        · exact (fun _ _ => rfl)
        · exact (fun _ _ => rfl)
        refine SLc ?_ ?_ ?_
        · rfl
        · refine eN W 27 ?_
          kernel_rfl
        exact SL_nil
      · refine SE_callB W.ok ?_ ?_ (W.no (by kernel_rfl)) (neb (by kernel_rfl)) ?_ opN_len ?_ ?_ ?_
        · kernel_rfl
        · kernel_rfl
        · kernel_rfl
        · exact (fun _ _ => rfl)
        · exact (fun _ _ => rfl)
        refine SLc ?_ ?_ ?_
        · rfl
        · refine eN W 1 ?_
          kernel_rfl
        exact SL_nil
      exact rfl
    refine SS_cons ?_ ?_
    · refine S1_if ?_ ?_ ?_
      · refine ST_cmp op_ne ?_ ?_ ?_
        · refine SE_op2 op_mod ?_ ?_
          · refine SE_item ?_ ?_ ?_
            · exact (fun _ _ => rfl)
            · refine eN W 27 ?_
              kernel_rfl
            refine SE_op1 op_neg ?_
            exact SE_int
          refine SE_item ?_ ?_ ?_
          · exact (fun _ _ => rfl)
          · refine eN W 1 ?_
            kernel_rfl
          refine SE_op1 op_neg ?_
          exact SE_int
        · exact SE_int
        exact rfl
      · refine SS_cons ?_ ?_
        · refine S1_ret ?_
          exact SE_none
        exact SS_nil
      exact SS_nil
    refine SS_cons ?_ ?_
    · refine swp W [Str.ofString "number", Str.ofString "power"] ?_ [28, 21] ?_ ?_ ?_ ?_
      · refine SLc ?_ ?_ ?_
        · rfl
        · refine SE_op2 op_div ?_ ?_
          · refine SE_item ?_ ?_ ?_
            · exact (fun _ _ => rfl)
            · refine eN W 27 ?_
              kernel_rfl
            refine SE_op1 op_neg ?_
            exact SE_int
          refine SE_item ?_ ?_ ?_
          · exact (fun _ _ => rfl)
          · refine eN W 1 ?_
            kernel_rfl
          refine SE_op1 op_neg ?_
          exact SE_int
        refine SLc ?_ ?_ ?_
        · rfl
        · refine SE_op2 op_sub ?_ ?_
          · refine SE_callB W.ok ?_ ?_ (W.no (by kernel_rfl)) (neb (by kernel_rfl)) ?_ opN_len ?_ ?_ ?_
            · kernel_rfl
            · kernel_rfl
            · kernel_rfl
            · exact (fun _ _ => rfl)
            · exact (fun _ _ => rfl)
            refine SLc ?_ ?_ ?_
            · rfl
            · refine eN W 27 ?_
              kernel_rfl
            exact SL_nil
          refine SE_callB W.ok ?_ ?_ (W.no (by kernel_rfl)) (neb (by kernel_rfl)) ?_ opN_len ?_ ?_ ?_
          · kernel_rfl
          · kernel_rfl
          · kernel_rfl
          · exact (fun _ _ => rfl)
          · exact (fun _ _ => rfl)
          refine SLc ?_ ?_ ?_
          · rfl
          · refine eN W 1 ?_
            kernel_rfl
          exact SL_nil
        exact SL_nil
      · kernel_rfl
      · kernel_rfl
      · exact (fun _ => rfl)
      exact (fun env he => by obtain ⟨sc, _, _, _, _, _, _, _, _⟩ := env; have he2 : sc = _ := he; subst he2; kernel_rfl)
    refine SS_cons ?_ ?_
    · refine S1_asg ?_ ?_ ?_ ?_ ?_
      · refine eN W 21 ?_
        kernel_rfl
      · refine TA_sub ?_ ?_
        · refine eN W 7 ?_
          kernel_rfl
        refine eN W 28 ?_
        kernel_rfl
      · exact (fun _ _ => rfl)
      · exact (fun _ _ => rfl)
      exact (fun _ => rfl)
    refine SS_cons ?_ ?_
    · refine S1_asg ?_ ?_ ?_ ?_ ?_
      · refine eC W 25 ?_ ?_ ?_ ?_ h_zsub ?_ ?_
        · kernel_rfl
        · kernel_rfl
        · kernel_rfl
        · kernel_rfl
        · exact (fun _ _ => rfl)
        refine SLc ?_ ?_ ?_
        · rfl
        · refine eN W 27 ?_
          kernel_rfl
        refine SLc ?_ ?_ ?_
        · rfl
        · refine eC W 27 ?_ ?_ ?_ ?_ h_zraise ?_ ?_
          · kernel_rfl
          · kernel_rfl
          · kernel_rfl
          · kernel_rfl
          · exact (fun _ _ => rfl)
          refine SLc ?_ ?_ ?_
          · rfl
          · refine eC W 26 ?_ ?_ ?_ ?_ h_zscale ?_ ?_
            · kernel_rfl
            · kernel_rfl
            · kernel_rfl
            · kernel_rfl
            · exact (fun _ _ => rfl)
            refine SLc ?_ ?_ ?_
            · rfl
            · refine eN W 1 ?_
              kernel_rfl
            refine SLc ?_ ?_ ?_
            · rfl
            · refine eN W 21 ?_
              kernel_rfl
            exact SL_nil
          refine SLc ?_ ?_ ?_
          · rfl
          · refine eN W 28 ?_
            kernel_rfl
          exact SL_nil
        exact SL_nil
      · refine tN W 27 ?_
        kernel_rfl
      · exact (fun _ _ => rfl)
      · exact (fun _ _ => rfl)
      exact (fun _ => rfl)
    exact SS_nil
  refine SS_cons ?_ ?_
  · refine S1_ret ?_
    refine SE_if ?_ ?_ ?_
    · refine ST_cmp op_eq ?_ ?_ ?_
      · refine SE_callB W.ok ?_ ?_ (W.no (by kernel_rfl)) (neb (by kernel_rfl)) ?_ opN_len ?_ ?_ ?_
        · kernel_rfl
        · kernel_rfl
        · kernel_rfl
        · exact (fun _ _ => rfl)
        · exact (fun _ _ => rfl)
        refine SLc ?_ ?_ ?_
        · rfl
        · refine eN W 27 ?_
          kernel_rfl
        exact SL_nil
      · exact SE_int
      exact rfl
    · refine eC W 22 ?_ ?_ ?_ ?_ h_ztrim ?_ ?_
      · kernel_rfl
      · kernel_rfl
      · kernel_rfl
      · kernel_rfl
      · exact (fun _ _ => rfl)
      refine SLc ?_ ?_ ?_
      · rfl
      · refine eN W 7 ?_
        kernel_rfl
      exact SL_nil
    exact SE_none
  exact SS_nil
theorem ok_zexact {C : Cx} {ad : Nat → Addr} (W : Wd C ad) : CO C 4 (ad 31) c_zexact := by
  refine CO_ofH (sc := (fn 31).scope) (body := (fn 31).body) (ps := [Str.ofString "a", Str.ofString "b"]) (is := [0, 1]) (d := b_zexact) (dp := 3) W.ok ?_ ?_ (s_zexact W)
  · exact W.at 31 (by kernel_rfl) [Str.ofString "a", Str.ofString "b"] (fun _ _ _ vals h => by
    obtain _ | ⟨_, _ | ⟨_, _ | ⟨_, _⟩⟩⟩ := vals <;> first | (simp at h; done) | kernel_rfl)
  · exact W.fok [0, 1] [Str.ofString "a", Str.ofString "b"] (by kernel_rfl)

theorem s_mvmul {C : Cx} {ad : Nat → Addr} (W : Wd C ad) : Hide (SS C 4 (fn 13).scope (fn 13).body b_mvmul) := by
  refine ⟨?_⟩
  have h_add_term : CO C 4 (ad 12) c_add_term := (ok_add_term W).mono (by decide)
  have h_powers_product : CO C 4 (ad 1) c_powers_product := (ok_powers_product W).mono (by decide)
  have h_rmul : CO C 4 (ad 10) c_rmul := (ok_rmul W).mono (by decide)
  refine SS_cons ?_ ?_
  · refine S1_asg ?_ ?_ ?_ ?_ ?_
    · exact SE_emptyDict W.ok
    · refine tN W 7 ?_
      kernel_rfl
    · exact (fun _ _ => rfl)
    · exact (fun _ _ => rfl)
    exact (fun _ => rfl)
  refine SS_cons ?_ ?_
  · refine S1_for (ns:=[Str.ofString "powers"]) ?_ ?_ ?_ ?_
    · refine SI_dict ?_ ?_
      · exact (fun _ _ => rfl)
      refine eN W 1 ?_
      kernel_rfl
    · refine aN W 8 ?_
      kernel_rfl
    · refine SS_cons ?_ ?_
      · refine S1_for (ns:=[Str.ofString "one"]) ?_ ?_ ?_ ?_
        · refine SI_dict ?_ ?_
          · exact (fun _ _ => rfl)
          refine eN W 0 ?_
          kernel_rfl
        · refine aN W 3 ?_
          kernel_rfl
        · refine SS_cons ?_ ?_
          · refine S1_expr ?_ ?_ ?_
            · refine eC W 12 ?_ ?_ ?_ ?_ h_add_term ?_ ?_
              · kernel_rfl
              · kernel_rfl
              · kernel_rfl
              · kernel_rfl
              · exact (fun _ _ => rfl)
              refine SLc ?_ ?_ ?_
              · rfl
              · refine eN W 7 ?_
                kernel_rfl
              refine SLc ?_ ?_ ?_
              · rfl
              · refine eC W 1 ?_ ?_ ?_ ?_ h_powers_product ?_ ?_
                · kernel_rfl
                · kernel_rfl
                · kernel_rfl
                · kernel_rfl
                · exact (fun _ _ => rfl)
                refine SLc ?_ ?_ ?_
                · rfl
                · refine eN W 3 ?_
                  kernel_rfl
                refine SLc ?_ ?_ ?_
                · rfl
                · refine eN W 8 ?_
                  kernel_rfl
                exact SL_nil
              refine SLc ?_ ?_ ?_
              · rfl
              · refine eC W 10 ?_ ?_ ?_ ?_ h_rmul ?_ ?_
                · kernel_rfl
                · kernel_rfl
                · kernel_rfl
                · kernel_rfl
                · exact (fun _ _ => rfl)
                refine SLc ?_ ?_ ?_
                · rfl
                · refine SE_item ?_ ?_ ?_
                  · exact (fun _ _ => rfl)
                  · refine eN W 0 ?_
                    kernel_rfl
                  refine eN W 3 ?_
                  kernel_rfl
                refine SLc ?_ ?_ ?_
                · rfl
                · refine SE_item ?_ ?_ ?_
                  · exact (fun _ _ => rfl)
                  · refine eN W 1 ?_
                    kernel_rfl
                  refine eN W 8 ?_
                  kernel_rfl
                exact SL_nil
              exact SL_nil
            · kernel_rfl
            exact (fun _ => rfl)
          exact SS_nil
        exact (fun _ _ => rfl)
      exact SS_nil
    exact (fun _ _ => rfl)
  refine SS_cons ?_ ?_
  · refine S1_ret ?_
    refine eN W 7 ?_
    kernel_rfl
  exact SS_nil
theorem ok_mvmul {C : Cx} {ad : Nat → Addr} (W : Wd C ad) : CO C 5 (ad 13) c_mvmul := by
  refine CO_ofH (sc := (fn 13).scope) (body := (fn 13).body) (ps := [Str.ofString "a", Str.ofString "b"]) (is := [0, 1]) (d := b_mvmul) (dp := 4) W.ok ?_ ?_ (s_mvmul W)
  · exact W.at 13 (by kernel_rfl) [Str.ofString "a", Str.ofString "b"] (fun _ _ _ vals h => by
    obtain _ | ⟨_, _ | ⟨_, _ | ⟨_, _⟩⟩⟩ := vals <;> first | (simp at h; done) | kernel_rfl)
  · exact W.fok [0, 1] [Str.ofString "a", Str.ofString "b"] (by kernel_rfl)

theorem s_law_partitions {C : Cx} {ad : Nat → Addr} (W : Wd C ad) (m : Nat) {c : DC} (hc : CO C (0 + m) (ad 34) c) : Hide (SS C (0 + m) (fn 34).scope (fn 34).body (b_law_partitions c)) := by
  refine ⟨?_⟩
  refine SS_cons ?_ ?_
  · refine S1_if ?_ ?_ ?_
    · refine ST_cmp op_eq ?_ ?_ ?_
      · refine eN W 31 ?_
        kernel_rfl
      · exact SE_int
      exact rfl
    · refine SS_cons ?_ ?_
      · refine S1_ret ?_
        refine SE_list ?_
        refine SLc ?_ ?_ ?_
        · rfl
        · refine SE_list ?_
          exact SL_nil
        exact SL_nil
      exact SS_nil
    exact SS_nil
  refine SS_cons ?_ ?_
  · refine S1_ret ?_
    refine SF_freeze ?_
    refine SF_comp2 (ns₁:=[Str.ofString "part"]) (ns₂:=[Str.ofString "rest"]) ?_ ?_ ?_ ?_ ?_ ?_ ?_ ?_ ?_ ?_
    · refine cOk W [33, 27] ?_
      kernel_rfl
    · refine SI_any ?_ ?_
      · exact (fun _ _ => rfl)
      refine SE_callT W.ok ?_ ?_ (W.no (by kernel_rfl)) (neb (by kernel_rfl)) ?_ opN_range ?_ ?_ ?_
      · kernel_rfl
      · kernel_rfl
      · kernel_rfl
      · exact (fun _ _ => rfl)
      · exact (fun _ _ => rfl)
      refine SLc ?_ ?_ ?_
      · rfl
      · refine SE_callB W.ok ?_ ?_ (W.no (by kernel_rfl)) (neb (by kernel_rfl)) ?_ opN_min ?_ ?_ ?_
        · kernel_rfl
        · kernel_rfl
        · kernel_rfl
        · exact (fun _ _ => rfl)
        · exact (fun _ _ => rfl)
        refine SLc ?_ ?_ ?_
        · rfl
        · refine eN W 31 ?_
          kernel_rfl
        refine SLc ?_ ?_ ?_
        · rfl
        · refine eN W 32 ?_
          kernel_rfl
        exact SL_nil
      refine SLc ?_ ?_ ?_
      · rfl
      · exact SE_int
      refine SLc ?_ ?_ ?_
      · rfl
      · refine SE_op1 op_neg ?_
        exact SE_int
      exact SL_nil
    · refine aN W 33 ?_
      kernel_rfl
    · kernel_rfl
    · refine SI_any ?_ ?_
      · exact (fun _ _ => rfl)
      refine eC W 34 ?_ ?_ ?_ ?_ hc ?_ ?_
      · kernel_rfl
      · kernel_rfl
      · kernel_rfl
      · kernel_rfl
      · exact (fun _ _ => rfl)
      refine SLc ?_ ?_ ?_
      · rfl
      · refine SE_op2 op_sub ?_ ?_
        · refine eN W 31 ?_
          kernel_rfl
        refine eN W 33 ?_
        kernel_rfl
      refine SLc ?_ ?_ ?_
      · rfl
      · refine eN W 33 ?_
        kernel_rfl
      exact SL_nil
    · refine aN W 27 ?_
      kernel_rfl
    · exact (.inl ⟨rfl, rfl⟩)
    · refine SE_op2 op_add ?_ ?_
      · refine SE_list ?_
        refine SLc ?_ ?_ ?_
        · rfl
        · refine eN W 33 ?_
          kernel_rfl
        exact SL_nil
      refine eN W 27 ?_
      kernel_rfl
    · exact (fun _ _ => rfl)
    exact (fun _ _ => rfl)
  exact SS_nil
theorem rk_law_partitions {C : Cx} {ad : Nat → Addr} (W : Wd C ad) : ∀ m, CO C (0 + m) (ad 34) (r_law_partitions m)
  | 0 => by intro A env s X μ ρ σ vs us u σ' Q E _ _ _ h; cases h
  | m + 1 => CO_ofH W.ok (W.at 34 (by kernel_rfl) [Str.ofString "n", Str.ofString "most"] (fun _ _ _ vals h => by
    obtain _ | ⟨_, _ | ⟨_, _ | ⟨_, _⟩⟩⟩ := vals <;> first | (simp at h; done) | kernel_rfl)) (W.fok [31, 32] [Str.ofString "n", Str.ofString "most"] (by kernel_rfl)) (s_law_partitions W m (rk_law_partitions W m))
theorem ok_law_partitions {C : Cx} {ad : Nat → Addr} (W : Wd C ad) : CO C 8 (ad 34) c_law_partitions := rk_law_partitions W 8

theorem s_law_strips {C : Cx} {ad : Nat → Addr} (W : Wd C ad) (m : Nat) {c : DC} (hc : CO C (0 + m) (ad 35) c) : Hide (SS C (0 + m) (fn 35).scope (fn 35).body (b_law_strips c)) := by
  refine ⟨?_⟩
  refine SS_cons ?_ ?_
  · refine S1_if ?_ ?_ ?_
    · refine ST_cmp op_eq ?_ ?_ ?_
      · refine SE_callB W.ok ?_ ?_ (W.no (by kernel_rfl)) (neb (by kernel_rfl)) ?_ opN_len ?_ ?_ ?_
        · kernel_rfl
        · kernel_rfl
        · kernel_rfl
        · exact (fun _ _ => rfl)
        · exact (fun _ _ => rfl)
        refine SLc ?_ ?_ ?_
        · rfl
        · refine eN W 35 ?_
          kernel_rfl
        exact SL_nil
      · exact SE_int
      exact rfl
    · refine SS_cons ?_ ?_
      · refine S1_ret ?_
        exact SE_int
      exact SS_nil
    exact SS_nil
  refine SS_cons ?_ ?_
  · refine S1_asg ?_ ?_ ?_ ?_ ?_
    · exact SE_int
    · refine tN W 7 ?_
      kernel_rfl
    · exact (fun _ _ => rfl)
    · exact (fun _ _ => rfl)
    exact (fun _ => rfl)
  refine SS_cons ?_ ?_
  · refine S1_for (ns:=[Str.ofString "at", Str.ofString "height"]) ?_ ?_ ?_ ?_
    · refine SI_enum W.ok ?_ ?_ (W.no (by kernel_rfl)) (neb (by kernel_rfl)) ?_ ?_ ?_
      · kernel_rfl
      · kernel_rfl
      · kernel_rfl
      · exact (fun _ _ => rfl)
      refine eN W 34 ?_
      kernel_rfl
    · refine SA_tuple W.nodup ?_
      refine aC W 2 ?_ ?_
      · kernel_rfl
      refine aC W 36 ?_ ?_
      · kernel_rfl
      exact NamesAre.nil
    · refine SS_cons ?_ ?_
      · refine S1_asg ?_ ?_ ?_ ?_ ?_
        · refine SE_op2 op_sub ?_ ?_
          · refine eN W 36 ?_
            kernel_rfl
          refine SE_item ?_ ?_ ?_
          · exact (fun _ _ => rfl)
          · refine eN W 35 ?_
            kernel_rfl
          exact SE_int
        · refine tN W 37 ?_
          kernel_rfl
        · exact (fun _ _ => rfl)
        · exact (fun _ _ => rfl)
        exact (fun _ => rfl)
      refine SS_cons ?_ ?_
      · refine S1_if ?_ ?_ ?_
        · refine ST_and ?_ ?_
          · refine ST_cmp op_ge ?_ ?_ ?_
            · refine eN W 37 ?_
              kernel_rfl
            · exact SE_int
            exact rfl
          refine ST_cmp op_notIn ?_ ?_ ?_
          · refine eN W 37 ?_
            kernel_rfl
          · refine eN W 34 ?_
            kernel_rfl
          exact rfl
        · refine SS_cons ?_ ?_
          · refine S1_asg ?_ ?_ ?_ ?_ ?_
            · refine SE_callB W.ok ?_ ?_ (W.no (by kernel_rfl)) (neb (by kernel_rfl)) ?_ opN_len ?_ ?_ ?_
              · kernel_rfl
              · kernel_rfl
              · kernel_rfl
              · exact (fun _ _ => rfl)
              · exact (fun _ _ => rfl)
              refine SLc ?_ ?_ ?_
              · rfl
              · refine SF_freeze ?_
                refine SF_comp1 (ns:=[Str.ofString "one"]) ?_ ?_ ?_ ?_ ?_ ?_ ?_
                · refine cOk W [3] ?_
                  kernel_rfl
                · refine SI_any ?_ ?_
                  · exact (fun _ _ => rfl)
                  refine eN W 34 ?_
                  kernel_rfl
                · refine aN W 3 ?_
                  kernel_rfl
                · kernel_rfl
                · refine .inr ⟨_, rfl, ?_⟩
                  refine ST_chain op_lt op_lt ?_ ?_ ?_ ?_
                  · refine eN W 37 ?_
                    kernel_rfl
                  · refine eN W 3 ?_
                    kernel_rfl
                  · refine eN W 36 ?_
                    kernel_rfl
                  exact rfl
                · refine eN W 3 ?_
                  kernel_rfl
                exact (fun _ _ => rfl)
              exact SL_nil
            · refine tN W 38 ?_
              kernel_rfl
            · exact (fun _ _ => rfl)
            · exact (fun _ _ => rfl)
            exact (fun _ => rfl)
          refine SS_cons ?_ ?_
          · refine aug W 7 ?_ op_iadd ?_
            · kernel_rfl
            refine SE_op2 op_mul ?_ ?_
            · refine SE_op2 op_sub ?_ ?_
              · exact SE_int
              refine SE_op2 op_mul ?_ ?_
              · exact SE_int
              refine SE_op2 op_mod ?_ ?_
              · refine eN W 38 ?_
                kernel_rfl
              exact SE_int
            refine eC W 35 ?_ ?_ ?_ ?_ hc ?_ ?_
            · kernel_rfl
            · kernel_rfl
            · kernel_rfl
            · kernel_rfl
            · exact (fun _ _ => rfl)
            refine SLc ?_ ?_ ?_
            · rfl
            · refine SE_op2 op_add ?_ ?_
              · refine SE_op2 op_add ?_ ?_
                · refine SE_slice ?_ ?_ ?_ ?_ ?_
                  · refine eN W 34 ?_
                    kernel_rfl
                  · exact SP_none
                  · refine SP_some ?_
                    refine eN W 2 ?_
                    kernel_rfl
                  · exact SP_none
                  exact ⟨_, fun _ _ => rfl⟩
                refine SE_list ?_
                refine SLc ?_ ?_ ?_
                · rfl
                · refine eN W 37 ?_
                  kernel_rfl
                exact SL_nil
              refine SE_slice ?_ ?_ ?_ ?_ ?_
              · refine eN W 34 ?_
                kernel_rfl
              · refine SP_some ?_
                refine SE_op2 op_add ?_ ?_
                · refine eN W 2 ?_
                  kernel_rfl
                exact SE_int
              · exact SP_none
              · exact SP_none
              exact ⟨_, fun _ _ => rfl⟩
            refine SLc ?_ ?_ ?_
            · rfl
            · refine SE_slice ?_ ?_ ?_ ?_ ?_
              · refine eN W 35 ?_
                kernel_rfl
              · refine SP_some ?_
                exact SE_int
              · exact SP_none
              · exact SP_none
              exact ⟨_, fun _ _ => rfl⟩
            exact SL_nil
          exact SS_nil
        exact SS_nil
      exact SS_nil
    exact (fun _ _ => rfl)
  refine SS_cons ?_ ?_
  · refine S1_ret ?_
    refine eN W 7 ?_
    kernel_rfl
  exact SS_nil
theorem rk_law_strips {C : Cx} {ad : Nat → Addr} (W : Wd C ad) : ∀ m, CO C (0 + m) (ad 35) (r_law_strips m)
  | 0 => by intro A env s X μ ρ σ vs us u σ' Q E _ _ _ h; cases h
  | m + 1 => CO_ofH W.ok (W.at 35 (by kernel_rfl) [Str.ofString "heights", Str.ofString "sizes"] (fun _ _ _ vals h => by
    obtain _ | ⟨_, _ | ⟨_, _ | ⟨_, _⟩⟩⟩ := vals <;> first | (simp at h; done) | kernel_rfl)) (W.fok [34, 35] [Str.ofString "heights", Str.ofString "sizes"] (by kernel_rfl)) (s_law_strips W m (rk_law_strips W m))
theorem ok_law_strips {C : Cx} {ad : Nat → Addr} (W : Wd C ad) : CO C 8 (ad 35) c_law_strips := rk_law_strips W 8

theorem s_law_number {C : Cx} {ad : Nat → Addr} (W : Wd C ad) : Hide (SS C 8 (fn 36).scope (fn 36).body b_law_number) := by
  refine ⟨?_⟩
  have h_law_strips : CO C 8 (ad 35) c_law_strips := (ok_law_strips W).mono (by decide)
  refine SS_cons ?_ ?_
  · refine S1_ret ?_
    refine eC W 35 ?_ ?_ ?_ ?_ h_law_strips ?_ ?_
    · kernel_rfl
    · kernel_rfl
    · kernel_rfl
    · kernel_rfl
    · exact (fun _ _ => rfl)
    refine SLc ?_ ?_ ?_
    · rfl
    · refine SF_freeze ?_
      refine SF_comp1 (ns:=[Str.ofString "at", Str.ofString "part"]) ?_ ?_ ?_ ?_ ?_ ?_ ?_
      · refine cOk W [2, 33] ?_
        kernel_rfl
      · refine SI_enum W.ok ?_ ?_ (W.no (by kernel_rfl)) (neb (by kernel_rfl)) ?_ ?_ ?_
        · kernel_rfl
        · kernel_rfl
        · kernel_rfl
        · exact (fun _ _ => rfl)
        refine eN W 39 ?_
        kernel_rfl
      · refine SA_tuple W.nodup ?_
        refine aC W 2 ?_ ?_
        · kernel_rfl
        refine aC W 33 ?_ ?_
        · kernel_rfl
        exact NamesAre.nil
      · kernel_rfl
      · exact (.inl ⟨rfl, rfl⟩)
      · refine SE_op2 op_sub ?_ ?_
        · refine SE_op2 op_sub ?_ ?_
          · refine SE_op2 op_add ?_ ?_
            · refine eN W 33 ?_
              kernel_rfl
            refine SE_callB W.ok ?_ ?_ (W.no (by kernel_rfl)) (neb (by kernel_rfl)) ?_ opN_len ?_ ?_ ?_
            · kernel_rfl
            · kernel_rfl
            · kernel_rfl
            · exact (fun _ _ => rfl)
            · exact (fun _ _ => rfl)
            refine SLc ?_ ?_ ?_
            · rfl
            · refine eN W 39 ?_
              kernel_rfl
            exact SL_nil
          exact SE_int
        refine eN W 2 ?_
        kernel_rfl
      exact (fun _ _ => rfl)
    refine SLc ?_ ?_ ?_
    · rfl
    · refine eN W 35 ?_
      kernel_rfl
    exact SL_nil
  exact SS_nil
theorem ok_law_number {C : Cx} {ad : Nat → Addr} (W : Wd C ad) : CO C 9 (ad 36) c_law_number := by
  refine CO_ofH (sc := (fn 36).scope) (body := (fn 36).body) (ps := [Str.ofString "parts", Str.ofString "sizes"]) (is := [39, 35]) (d := b_law_number) (dp := 8) W.ok ?_ ?_ (s_law_number W)
  · exact W.at 36 (by kernel_rfl) [Str.ofString "parts", Str.ofString "sizes"] (fun _ _ _ vals h => by
    obtain _ | ⟨_, _ | ⟨_, _ | ⟨_, _⟩⟩⟩ := vals <;> first | (simp at h; done) | kernel_rfl)
  · exact W.fok [39, 35] [Str.ofString "parts", Str.ofString "sizes"] (by kernel_rfl)

end Mine
end

section
set_option autoImplicit false
set_option Elab.async false
set_option maxRecDepth 100000
namespace Mine
theorem s_law {C : Cx} {ad : Nat → Addr} (W : Wd C ad) : Hide (SS C 9 (fn 42).scope (fn 42).body b_law) := by
  refine ⟨?_⟩
  have h_law_alternants : CO C 9 (ad 41) c_law_alternants := (ok_law_alternants W).mono (by decide)
  have h_law_diagonal : CO C 9 (ad 39) c_law_diagonal := (ok_law_diagonal W).mono (by decide)
  have h_law_draw : CO C 9 (ad 33) c_law_draw := (ok_law_draw W).mono (by decide)
  have h_law_keeps : CO C 9 (ad 37) c_law_keeps := (ok_law_keeps W).mono (by decide)
  have h_law_number : CO C 9 (ad 36) c_law_number := (ok_law_number W).mono (by decide)
  have h_law_partitions : CO C 9 (ad 34) c_law_partitions := (ok_law_partitions W).mono (by decide)
  have h_law_product : CO C 9 (ad 38) c_law_product := (ok_law_product W).mono (by decide)
  have h_determinant : CO C 9 (ad 17) c_determinant := (ok_determinant W).mono (by decide)
  have h_mvmul : CO C 9 (ad 13) c_mvmul := (ok_mvmul W).mono (by decide)
  have h_whole_mul : CO C 9 (ad 19) c_whole_mul := (ok_whole_mul W).mono (by decide)
  have h_whole_turned : CO C 9 (ad 20) c_whole_turned := (ok_whole_turned W).mono (by decide)
  have h_zexact : CO C 9 (ad 31) c_zexact := (ok_zexact W).mono (by decide)
  have h_zmul : CO C 9 (ad 28) c_zmul := (ok_zmul W).mono (by decide)
  refine SS_cons ?_ ?_
  · refine S1_asg ?_ ?_ ?_ ?_ ?_
    · refine SF_thaw ?_
      refine SF_list ?_
      refine SLc ?_ ?_ ?_
      · rfl
      · refine SF_freeze ?_
        refine SF_comp1 (ns:=[Str.ofString "cell"]) ?_ ?_ ?_ ?_ ?_ ?_ ?_
        · refine cOk W [62] ?_
          kernel_rfl
        · refine SI_any ?_ ?_
          · exact (fun _ _ => rfl)
          refine SE_slice ?_ ?_ ?_ ?_ ?_
          · refine eN W 45 ?_
            kernel_rfl
          · exact SP_none
          · refine SP_some ?_
            exact SE_int
          · exact SP_none
          exact ⟨_, fun _ _ => rfl⟩
        · refine aN W 62 ?_
          kernel_rfl
        · kernel_rfl
        · exact (.inl ⟨rfl, rfl⟩)
        · refine SE_callT W.ok ?_ ?_ (W.no (by kernel_rfl)) (neb (by kernel_rfl)) ?_ opN_int ?_ ?_ ?_
          · kernel_rfl
          · kernel_rfl
          · kernel_rfl
          · exact (fun _ _ => rfl)
          · exact (fun _ _ => rfl)
          refine SLc ?_ ?_ ?_
          · rfl
          · refine eN W 62 ?_
            kernel_rfl
          exact SL_nil
        exact (fun _ _ => rfl)
      refine SLc ?_ ?_ ?_
      · rfl
      · exact SE_int
      exact SL_nil
    · refine tN W 29 ?_
      kernel_rfl
    · exact (fun _ _ => rfl)
    · exact (fun _ _ => rfl)
    exact (fun _ => rfl)
  refine SS_cons ?_ ?_
  · refine S1_asg ?_ ?_ ?_ ?_ ?_
    · refine SE_op2 op_add ?_ ?_
      · exact SE_int
      refine eC W 33 ?_ ?_ ?_ ?_ h_law_draw ?_ ?_
      · kernel_rfl
      · kernel_rfl
      · kernel_rfl
      · kernel_rfl
      · exact (fun _ _ => rfl)
      refine SLc ?_ ?_ ?_
      · rfl
      · refine eN W 29 ?_
        kernel_rfl
      refine SLc ?_ ?_ ?_
      · rfl
      · exact SE_int
      exact SL_nil
    · refine tN W 31 ?_
      kernel_rfl
    · exact (fun _ _ => rfl)
    · exact (fun _ _ => rfl)
    exact (fun _ => rfl)
  refine SS_cons ?_ ?_
  · refine S1_asg ?_ ?_ ?_ ?_ ?_
    · refine eC W 34 ?_ ?_ ?_ ?_ h_law_partitions ?_ ?_
      · kernel_rfl
      · kernel_rfl
      · kernel_rfl
      · kernel_rfl
      · exact (fun _ _ => rfl)
      refine SLc ?_ ?_ ?_
      · rfl
      · refine eN W 31 ?_
        kernel_rfl
      refine SLc ?_ ?_ ?_
      · rfl
      · refine eN W 31 ?_
        kernel_rfl
      exact SL_nil
    · refine tN W 46 ?_
      kernel_rfl
    · exact (fun _ _ => rfl)
    · exact (fun _ _ => rfl)
    exact (fun _ => rfl)
  refine SS_cons ?_ ?_
  · refine S1_tup ?_ ?_ ?_ ?_
    · refine SLc ?_ ?_ ?_
      · rfl
      · refine SE_callB W.ok ?_ ?_ (W.no (by kernel_rfl)) (neb (by kernel_rfl)) ?_ opN_len ?_ ?_ ?_
        · kernel_rfl
        · kernel_rfl
        · kernel_rfl
        · exact (fun _ _ => rfl)
        · exact (fun _ _ => rfl)
        refine SLc ?_ ?_ ?_
        · rfl
        · refine eN W 46 ?_
          kernel_rfl
        exact SL_nil
      refine SLc ?_ ?_ ?_
      · rfl
      · refine eC W 38 ?_ ?_ ?_ ?_ h_law_product ?_ ?_
        · kernel_rfl
        · kernel_rfl
        · kernel_rfl
        · kernel_rfl
        · exact (fun _ _ => rfl)
        refine SLc ?_ ?_ ?_
        · rfl
        · refine SE_callT W.ok ?_ ?_ (W.no (by kernel_rfl)) (neb (by kernel_rfl)) ?_ opN_range ?_ ?_ ?_
          · kernel_rfl
          · kernel_rfl
          · kernel_rfl
          · exact (fun _ _ => rfl)
          · exact (fun _ _ => rfl)
          refine SLc ?_ ?_ ?_
          · rfl
          · exact SE_int
          refine SLc ?_ ?_ ?_
          · rfl
          · refine SE_op2 op_add ?_ ?_
            · refine eN W 31 ?_
              kernel_rfl
            exact SE_int
          exact SL_nil
        exact SL_nil
      exact SL_nil
    · refine TAs.cons ?_ ?_ ?_
      · exact (fun _ => rfl)
      · refine tN W 23 ?_
        kernel_rfl
      refine TAs.cons ?_ ?_ ?_
      · exact (fun _ => rfl)
      · refine tN W 56 ?_
        kernel_rfl
      exact TAs.nil
    · exact (fun _ => rfl)
    exact (fun env he => by obtain ⟨sc, _, _, _, _, _, _, _, _⟩ := env; have he2 : sc = _ := he; subst he2; kernel_rfl)
  refine SS_cons ?_ ?_
  · refine S1_asg ?_ ?_ ?_ ?_ ?_
    · refine SE_item ?_ ?_ ?_
      · exact (fun _ _ => rfl)
      · refine eN W 46 ?_
        kernel_rfl
      refine eC W 33 ?_ ?_ ?_ ?_ h_law_draw ?_ ?_
      · kernel_rfl
      · kernel_rfl
      · kernel_rfl
      · kernel_rfl
      · exact (fun _ _ => rfl)
      refine SLc ?_ ?_ ?_
      · rfl
      · refine eN W 29 ?_
        kernel_rfl
      refine SLc ?_ ?_ ?_
      · rfl
      · refine eN W 23 ?_
        kernel_rfl
      exact SL_nil
    · refine tN W 35 ?_
      kernel_rfl
    · exact (fun _ _ => rfl)
    · exact (fun _ _ => rfl)
    exact (fun _ => rfl)
  refine SS_cons ?_ ?_
  · refine asgC W 47 (ns:=[Str.ofString "lot"]) ?_ ?_ ?_ ?_ ?_ ?_ ?_ ?_ ?_
    · refine cOk W [59] ?_
      kernel_rfl
    · refine SI_any ?_ ?_
      · exact (fun _ _ => rfl)
      refine eN W 46 ?_
      kernel_rfl
    · refine aN W 59 ?_
      kernel_rfl
    · kernel_rfl
    · exact (.inl ⟨rfl, rfl⟩)
    · refine eC W 37 ?_ ?_ ?_ ?_ h_law_keeps ?_ ?_
      · kernel_rfl
      · kernel_rfl
      · kernel_rfl
      · kernel_rfl
      · exact (fun _ _ => rfl)
      refine SLc ?_ ?_ ?_
      · rfl
      · refine eN W 59 ?_
        kernel_rfl
      exact SL_nil
    · exact (fun _ _ => rfl)
    · kernel_rfl
    exact (fun env he => by obtain ⟨sc, _, _, _, _, _, _, _, _⟩ := env; have he2 : sc = _ := he; subst he2; kernel_rfl)
  refine SS_cons ?_ ?_
  · refine asgC W 48 (ns:=[Str.ofString "parts"]) ?_ ?_ ?_ ?_ ?_ ?_ ?_ ?_ ?_
    · refine cOk W [39] ?_
      kernel_rfl
    · refine SI_any ?_ ?_
      · exact (fun _ _ => rfl)
      refine eN W 46 ?_
      kernel_rfl
    · refine aN W 39 ?_
      kernel_rfl
    · kernel_rfl
    · exact (.inl ⟨rfl, rfl⟩)
    · refine SF_freeze ?_
      refine SF_comp1 (ns:=[Str.ofString "lot"]) ?_ ?_ ?_ ?_ ?_ ?_ ?_
      · refine cOk W [59] ?_
        kernel_rfl
      · refine SI_any ?_ ?_
        · exact (fun _ _ => rfl)
        refine eN W 46 ?_
        kernel_rfl
      · refine aN W 59 ?_
        kernel_rfl
      · kernel_rfl
      · exact (.inl ⟨rfl, rfl⟩)
      · refine eC W 36 ?_ ?_ ?_ ?_ h_law_number ?_ ?_
        · kernel_rfl
        · kernel_rfl
        · kernel_rfl
        · kernel_rfl
        · exact (fun _ _ => rfl)
        refine SLc ?_ ?_ ?_
        · rfl
        · refine eN W 39 ?_
          kernel_rfl
        refine SLc ?_ ?_ ?_
        · rfl
        · refine eN W 59 ?_
          kernel_rfl
        exact SL_nil
      exact (fun _ _ => rfl)
    · exact (fun _ _ => rfl)
    · kernel_rfl
    exact (fun env he => by obtain ⟨sc, _, _, _, _, _, _, _, _⟩ := env; have he2 : sc = _ := he; subst he2; kernel_rfl)
  refine SS_cons ?_ ?_
  · refine S1_asg ?_ ?_ ?_ ?_ ?_
    · refine eC W 20 ?_ ?_ ?_ ?_ h_whole_turned ?_ ?_
      · kernel_rfl
      · kernel_rfl
      · kernel_rfl
      · kernel_rfl
      · exact (fun _ _ => rfl)
      refine SLc ?_ ?_ ?_
      · rfl
      · refine eN W 48 ?_
        kernel_rfl
      refine SLc ?_ ?_ ?_
      · rfl
      · refine eN W 23 ?_
        kernel_rfl
      exact SL_nil
    · refine tN W 49 ?_
      kernel_rfl
    · exact (fun _ _ => rfl)
    · exact (fun _ _ => rfl)
    exact (fun _ => rfl)
  refine SS_cons ?_ ?_
  · refine S1_asg ?_ ?_ ?_ ?_ ?_
    · refine eC W 39 ?_ ?_ ?_ ?_ h_law_diagonal ?_ ?_
      · kernel_rfl
      · kernel_rfl
      · kernel_rfl
      · kernel_rfl
      · exact (fun _ _ => rfl)
      refine SLc ?_ ?_ ?_
      · rfl
      · refine SF_freeze ?_
        refine SF_comp1 (ns:=[Str.ofString "keep"]) ?_ ?_ ?_ ?_ ?_ ?_ ?_
        · refine cOk W [63] ?_
          kernel_rfl
        · refine SI_any ?_ ?_
          · exact (fun _ _ => rfl)
          refine eN W 47 ?_
          kernel_rfl
        · refine aN W 63 ?_
          kernel_rfl
        · kernel_rfl
        · exact (.inl ⟨rfl, rfl⟩)
        · refine SE_op2 op_div ?_ ?_
          · refine eN W 56 ?_
            kernel_rfl
          refine eN W 63 ?_
          kernel_rfl
        exact (fun _ _ => rfl)
      exact SL_nil
    · refine tN W 50 ?_
      kernel_rfl
    · exact (fun _ _ => rfl)
    · exact (fun _ _ => rfl)
    exact (fun _ => rfl)
  refine SS_cons ?_ ?_
  · refine S1_if ?_ ?_ ?_
    · refine ST_cmp op_ne ?_ ?_ ?_
      · refine eC W 19 ?_ ?_ ?_ ?_ h_whole_mul ?_ ?_
        · kernel_rfl
        · kernel_rfl
        · kernel_rfl
        · kernel_rfl
        · exact (fun _ _ => rfl)
        refine SLc ?_ ?_ ?_
        · rfl
        · refine eC W 19 ?_ ?_ ?_ ?_ h_whole_mul ?_ ?_
          · kernel_rfl
          · kernel_rfl
          · kernel_rfl
          · kernel_rfl
          · exact (fun _ _ => rfl)
          refine SLc ?_ ?_ ?_
          · rfl
          · refine eN W 48 ?_
            kernel_rfl
          refine SLc ?_ ?_ ?_
          · rfl
          · refine eN W 50 ?_
            kernel_rfl
          exact SL_nil
        refine SLc ?_ ?_ ?_
        · rfl
        · refine eN W 49 ?_
          kernel_rfl
        exact SL_nil
      · refine eC W 39 ?_ ?_ ?_ ?_ h_law_diagonal ?_ ?_
        · kernel_rfl
        · kernel_rfl
        · kernel_rfl
        · kernel_rfl
        · exact (fun _ _ => rfl)
        refine SLc ?_ ?_ ?_
        · rfl
        · refine SF_freeze ?_
          refine SF_rep ?_ ?_
          · refine SE_list ?_
            refine SLc ?_ ?_ ?_
            · rfl
            · refine eN W 56 ?_
              kernel_rfl
            exact SL_nil
          refine eN W 23 ?_
          kernel_rfl
        exact SL_nil
      exact rfl
    · refine SS_cons ?_ ?_
      · refine S1_ret ?_
        exact SE_bool
      exact SS_nil
    exact SS_nil
  refine SS_cons ?_ ?_
  · refine S1_if ?_ ?_ ?_
    · refine ST_cmp op_ne ?_ ?_ ?_
      · refine eC W 19 ?_ ?_ ?_ ?_ h_whole_mul ?_ ?_
        · kernel_rfl
        · kernel_rfl
        · kernel_rfl
        · kernel_rfl
        · exact (fun _ _ => rfl)
        refine SLc ?_ ?_ ?_
        · rfl
        · refine eN W 49 ?_
          kernel_rfl
        refine SLc ?_ ?_ ?_
        · rfl
        · refine eN W 48 ?_
          kernel_rfl
        exact SL_nil
      · refine eC W 39 ?_ ?_ ?_ ?_ h_law_diagonal ?_ ?_
        · kernel_rfl
        · kernel_rfl
        · kernel_rfl
        · kernel_rfl
        · exact (fun _ _ => rfl)
        refine SLc ?_ ?_ ?_
        · rfl
        · refine eN W 47 ?_
          kernel_rfl
        exact SL_nil
      exact rfl
    · refine SS_cons ?_ ?_
      · refine S1_ret ?_
        exact SE_bool
      exact SS_nil
    exact SS_nil
  refine SS_cons ?_ ?_
  · refine S1_if ?_ ?_ ?_
    · refine ST_cmp op_ne ?_ ?_ ?_
      · refine SE_callB W.ok ?_ ?_ (W.no (by kernel_rfl)) (neb (by kernel_rfl)) ?_ opN_abs ?_ ?_ ?_
        · kernel_rfl
        · kernel_rfl
        · kernel_rfl
        · exact (fun _ _ => rfl)
        · exact (fun _ _ => rfl)
        refine SLc ?_ ?_ ?_
        · rfl
        · refine eC W 17 ?_ ?_ ?_ ?_ h_determinant ?_ ?_
          · kernel_rfl
          · kernel_rfl
          · kernel_rfl
          · kernel_rfl
          · exact (fun _ _ => rfl)
          refine SLc ?_ ?_ ?_
          · rfl
          · refine eN W 48 ?_
            kernel_rfl
          exact SL_nil
        exact SL_nil
      · refine eC W 38 ?_ ?_ ?_ ?_ h_law_product ?_ ?_
        · kernel_rfl
        · kernel_rfl
        · kernel_rfl
        · kernel_rfl
        · exact (fun _ _ => rfl)
        refine SLc ?_ ?_ ?_
        · rfl
        · refine SF_freeze ?_
          refine SF_comp2 (ns₁:=[Str.ofString "lot"]) (ns₂:=[Str.ofString "part"]) ?_ ?_ ?_ ?_ ?_ ?_ ?_ ?_ ?_ ?_
          · refine cOk W [59, 33] ?_
            kernel_rfl
          · refine SI_any ?_ ?_
            · exact (fun _ _ => rfl)
            refine eN W 46 ?_
            kernel_rfl
          · refine aN W 59 ?_
            kernel_rfl
          · kernel_rfl
          · refine SI_any ?_ ?_
            · exact (fun _ _ => rfl)
            refine eN W 59 ?_
            kernel_rfl
          · refine aN W 33 ?_
            kernel_rfl
          · exact (.inl ⟨rfl, rfl⟩)
          · refine eN W 33 ?_
            kernel_rfl
          · exact (fun _ _ => rfl)
          exact (fun _ _ => rfl)
        exact SL_nil
      exact rfl
    · refine SS_cons ?_ ?_
      · refine S1_ret ?_
        exact SE_bool
      exact SS_nil
    exact SS_nil
  refine SS_cons ?_ ?_
  · refine swp W [Str.ofString "told", Str.ofString "place"] ?_ [58, 57] ?_ ?_ ?_ ?_
    · refine SLc ?_ ?_ ?_
      · rfl
      · refine eC W 41 ?_ ?_ ?_ ?_ h_law_alternants ?_ ?_
        · kernel_rfl
        · kernel_rfl
        · kernel_rfl
        · kernel_rfl
        · exact (fun _ _ => rfl)
        refine SLc ?_ ?_ ?_
        · rfl
        · refine SE_list ?_
          refine SLc ?_ ?_ ?_
          · rfl
          · refine SE_tuple ?_
            refine SLc ?_ ?_ ?_
            · rfl
            · refine SE_tuple ?_
              refine SLc ?_ ?_ ?_
              · rfl
              · exact SE_int
              refine SLc ?_ ?_ ?_
              · rfl
              · exact SE_int
              refine SLc ?_ ?_ ?_
              · rfl
              · exact SE_int
              exact SL_nil
            refine SLc ?_ ?_ ?_
            · rfl
            · exact SE_int
            exact SL_nil
          exact SL_nil
        exact SL_nil
      refine SLc ?_ ?_ ?_
      · rfl
      · refine method1 ?_ ?_ ?_ ?_ ?_ F.slot_list_index F.type_list_index op_index ?_
        · refine eN W 46 ?_
          kernel_rfl
        · refine eN W 35 ?_
          kernel_rfl
        · exact (fun _ => rfl)
        · kernel_rfl
        · exact (fun _ => rfl)
        exact (fun _ _ _ _ h => index_lst h)
      exact SL_nil
    · kernel_rfl
    · kernel_rfl
    · exact (fun _ => rfl)
    exact (fun env he => by obtain ⟨sc, _, _, _, _, _, _, _, _⟩ := env; have he2 : sc = _ := he; subst he2; kernel_rfl)
  refine SS_cons ?_ ?_
  · refine S1_for (ns:=[Str.ofString "size"]) ?_ ?_ ?_ ?_
    · refine SI_any ?_ ?_
      · exact (fun _ _ => rfl)
      refine eN W 35 ?_
      kernel_rfl
    · refine aN W 19 ?_
      kernel_rfl
    · refine SS_cons ?_ ?_
      · refine S1_asg ?_ ?_ ?_ ?_ ?_
        · refine eC W 13 ?_ ?_ ?_ ?_ h_mvmul ?_ ?_
          · kernel_rfl
          · kernel_rfl
          · kernel_rfl
          · kernel_rfl
          · exact (fun _ _ => rfl)
          refine SLc ?_ ?_ ?_
          · rfl
          · refine eN W 57 ?_
            kernel_rfl
          refine SLc ?_ ?_ ?_
          · rfl
          · refine SE_dict2 W ?_ ?_ ?_ ?_
            · refine SPs_cons ?_ ?_ ?_
              · refine SE_tuple ?_
                refine SLc ?_ ?_ ?_
                · rfl
                · refine eN W 19 ?_
                  kernel_rfl
                refine SLc ?_ ?_ ?_
                · rfl
                · exact SE_int
                refine SLc ?_ ?_ ?_
                · rfl
                · exact SE_int
                exact SL_nil
              · refine SE_tuple ?_
                refine SLc ?_ ?_ ?_
                · rfl
                · exact SE_int
                refine SLc ?_ ?_ ?_
                · rfl
                · exact SE_int
                exact SL_nil
              refine SPs_cons ?_ ?_ ?_
              · refine SE_tuple ?_
                refine SLc ?_ ?_ ?_
                · rfl
                · exact SE_int
                refine SLc ?_ ?_ ?_
                · rfl
                · refine eN W 19 ?_
                  kernel_rfl
                refine SLc ?_ ?_ ?_
                · rfl
                · exact SE_int
                exact SL_nil
              · refine SE_tuple ?_
                refine SLc ?_ ?_ ?_
                · rfl
                · exact SE_int
                refine SLc ?_ ?_ ?_
                · rfl
                · exact SE_int
                exact SL_nil
              refine SPs_cons ?_ ?_ ?_
              · refine SE_tuple ?_
                refine SLc ?_ ?_ ?_
                · rfl
                · exact SE_int
                refine SLc ?_ ?_ ?_
                · rfl
                · exact SE_int
                refine SLc ?_ ?_ ?_
                · rfl
                · refine eN W 19 ?_
                  kernel_rfl
                exact SL_nil
              · refine SE_tuple ?_
                refine SLc ?_ ?_ ?_
                · rfl
                · exact SE_int
                refine SLc ?_ ?_ ?_
                · rfl
                · exact SE_int
                exact SL_nil
              exact SPs_nil
            · exact (fun _ => rfl)
            · exact (fun q => by cases q)
            decide
          exact SL_nil
        · refine tN W 57 ?_
          kernel_rfl
        · exact (fun _ _ => rfl)
        · exact (fun _ _ => rfl)
        exact (fun _ => rfl)
      exact SS_nil
    exact (fun _ _ => rfl)
  refine SS_cons ?_ ?_
  · refine S1_asg ?_ ?_ ?_ ?_ ?_
    · refine SF_thaw ?_
      refine SF_list ?_
      exact SL_nil
    · refine tN W 51 ?_
      kernel_rfl
    · exact (fun _ _ => rfl)
    · exact (fun _ _ => rfl)
    exact (fun _ => rfl)
  refine SS_cons ?_ ?_
  · refine S1_for (ns:=[Str.ofString "at", Str.ofString "lot"]) ?_ ?_ ?_ ?_
    · refine SI_enum W.ok ?_ ?_ (W.no (by kernel_rfl)) (neb (by kernel_rfl)) ?_ ?_ ?_
      · kernel_rfl
      · kernel_rfl
      · kernel_rfl
      · exact (fun _ _ => rfl)
      refine eN W 46 ?_
      kernel_rfl
    · refine SA_tuple W.nodup ?_
      refine aC W 2 ?_ ?_
      · kernel_rfl
      refine aC W 59 ?_ ?_
      · kernel_rfl
      exact NamesAre.nil
    · refine SS_cons ?_ ?_
      · refine S1_if ?_ ?_ ?_
        · refine ST_cmp op_le ?_ ?_ ?_
          · refine SE_callB W.ok ?_ ?_ (W.no (by kernel_rfl)) (neb (by kernel_rfl)) ?_ opN_len ?_ ?_ ?_
            · kernel_rfl
            · kernel_rfl
            · kernel_rfl
            · exact (fun _ _ => rfl)
            · exact (fun _ _ => rfl)
            refine SLc ?_ ?_ ?_
            · rfl
            · refine eN W 59 ?_
              kernel_rfl
            exact SL_nil
          · exact SE_int
          exact rfl
        · refine SS_cons ?_ ?_
          · refine S1_asg ?_ ?_ ?_ ?_ ?_
            · refine SE_op2 op_add ?_ ?_
              · refine eN W 59 ?_
                kernel_rfl
              refine SF_freeze ?_
              refine SF_rep ?_ ?_
              · refine SE_list ?_
                refine SLc ?_ ?_ ?_
                · rfl
                · exact SE_int
                exact SL_nil
              refine SE_op2 op_sub ?_ ?_
              · exact SE_int
              refine SE_callB W.ok ?_ ?_ (W.no (by kernel_rfl)) (neb (by kernel_rfl)) ?_ opN_len ?_ ?_ ?_
              · kernel_rfl
              · kernel_rfl
              · kernel_rfl
              · exact (fun _ _ => rfl)
              · exact (fun _ _ => rfl)
              refine SLc ?_ ?_ ?_
              · rfl
              · refine eN W 59 ?_
                kernel_rfl
              exact SL_nil
            · refine tN W 39 ?_
              kernel_rfl
            · exact (fun _ _ => rfl)
            · exact (fun _ _ => rfl)
            exact (fun _ => rfl)
          refine SS_cons ?_ ?_
          · refine S1_append ?_ ?_ ?_ ?_ ?_ ?_ ?_
            · refine eN W 51 ?_
              kernel_rfl
            · refine SE_tuple ?_
              refine SLc ?_ ?_ ?_
              · rfl
              · refine SE_tuple ?_
                refine SLc ?_ ?_ ?_
                · rfl
                · refine SE_op2 op_add ?_ ?_
                  · refine SE_item ?_ ?_ ?_
                    · exact (fun _ _ => rfl)
                    · refine eN W 39 ?_
                      kernel_rfl
                    exact SE_int
                  exact SE_int
                refine SLc ?_ ?_ ?_
                · rfl
                · refine SE_op2 op_add ?_ ?_
                  · refine SE_item ?_ ?_ ?_
                    · exact (fun _ _ => rfl)
                    · refine eN W 39 ?_
                      kernel_rfl
                    exact SE_int
                  exact SE_int
                refine SLc ?_ ?_ ?_
                · rfl
                · refine SE_item ?_ ?_ ?_
                  · exact (fun _ _ => rfl)
                  · refine eN W 39 ?_
                    kernel_rfl
                  exact SE_int
                exact SL_nil
              refine SLc ?_ ?_ ?_
              · rfl
              · refine SE_item ?_ ?_ ?_
                · exact (fun _ _ => rfl)
                · refine SE_item ?_ ?_ ?_
                  · exact (fun _ _ => rfl)
                  · refine eN W 48 ?_
                    kernel_rfl
                  refine eN W 2 ?_
                  kernel_rfl
                refine eN W 58 ?_
                kernel_rfl
              exact SL_nil
            · exact (fun _ => rfl)
            · kernel_rfl
            · exact (fun _ => rfl)
            · kernel_rfl
            exact (fun _ => rfl)
          exact SS_nil
        exact SS_nil
      exact SS_nil
    exact (fun _ _ => rfl)
  refine SS_cons ?_ ?_
  · refine S1_if ?_ ?_ ?_
    · refine ST_cmp op_neD ?_ ?_ ?_
      · refine eN W 57 ?_
        kernel_rfl
      · refine eC W 41 ?_ ?_ ?_ ?_ h_law_alternants ?_ ?_
        · kernel_rfl
        · kernel_rfl
        · kernel_rfl
        · kernel_rfl
        · exact (fun _ _ => rfl)
        refine SLc ?_ ?_ ?_
        · rfl
        · refine SE_frz ?_
          refine eN W 51 ?_
          kernel_rfl
        exact SL_nil
      exact rfl
    · refine SS_cons ?_ ?_
      · refine S1_ret ?_
        exact SE_bool
      exact SS_nil
    exact SS_nil
  refine SS_cons ?_ ?_
  · refine S1_asg ?_ ?_ ?_ ?_ ?_
    · refine SE_list ?_
      refine SLc ?_ ?_ ?_
      · rfl
      · exact SE_int
      exact SL_nil
    · refine tN W 52 ?_
      kernel_rfl
    · exact (fun _ _ => rfl)
    · exact (fun _ _ => rfl)
    exact (fun _ => rfl)
  refine SS_cons ?_ ?_
  · refine S1_for (ns:=[Str.ofString "size"]) ?_ ?_ ?_ ?_
    · refine SI_any ?_ ?_
      · exact (fun _ _ => rfl)
      refine eN W 35 ?_
      kernel_rfl
    · refine aN W 19 ?_
      kernel_rfl
    · refine SS_cons ?_ ?_
      · refine S1_asg ?_ ?_ ?_ ?_ ?_
        · refine eC W 28 ?_ ?_ ?_ ?_ h_zmul ?_ ?_
          · kernel_rfl
          · kernel_rfl
          · kernel_rfl
          · kernel_rfl
          · exact (fun _ _ => rfl)
          refine SLc ?_ ?_ ?_
          · rfl
          · refine eN W 52 ?_
            kernel_rfl
          refine SLc ?_ ?_ ?_
          · rfl
          · refine SE_op2 op_add ?_ ?_
            · refine SE_op2 op_add ?_ ?_
              · refine SE_list ?_
                refine SLc ?_ ?_ ?_
                · rfl
                · refine SE_op1 op_neg ?_
                  exact SE_int
                exact SL_nil
              refine SF_freeze ?_
              refine SF_rep ?_ ?_
              · refine SE_list ?_
                refine SLc ?_ ?_ ?_
                · rfl
                · exact SE_int
                exact SL_nil
              refine SE_op2 op_sub ?_ ?_
              · refine eN W 19 ?_
                kernel_rfl
              exact SE_int
            refine SE_list ?_
            refine SLc ?_ ?_ ?_
            · rfl
            · exact SE_int
            exact SL_nil
          exact SL_nil
        · refine tN W 52 ?_
          kernel_rfl
        · exact (fun _ _ => rfl)
        · exact (fun _ _ => rfl)
        exact (fun _ => rfl)
      exact SS_nil
    exact (fun _ _ => rfl)
  refine SS_cons ?_ ?_
  · refine asgC W 53 (ns:=[Str.ofString "leg"]) ?_ ?_ ?_ ?_ ?_ ?_ ?_ ?_ ?_
    · refine cOk W [61] ?_
      kernel_rfl
    · refine SI_any ?_ ?_
      · exact (fun _ _ => rfl)
      refine SE_callT W.ok ?_ ?_ (W.no (by kernel_rfl)) (neb (by kernel_rfl)) ?_ opN_range ?_ ?_ ?_
      · kernel_rfl
      · kernel_rfl
      · kernel_rfl
      · exact (fun _ _ => rfl)
      · exact (fun _ _ => rfl)
      refine SLc ?_ ?_ ?_
      · rfl
      · refine eN W 31 ?_
        kernel_rfl
      exact SL_nil
    · refine aN W 61 ?_
      kernel_rfl
    · kernel_rfl
    · exact (.inl ⟨rfl, rfl⟩)
    · refine SE_op2 op_mul ?_ ?_
      · refine SE_op2 op_sub ?_ ?_
        · exact SE_int
        refine SE_op2 op_mul ?_ ?_
        · exact SE_int
        refine SE_op2 op_mod ?_ ?_
        · refine eN W 61 ?_
          kernel_rfl
        exact SE_int
      refine eC W 36 ?_ ?_ ?_ ?_ h_law_number ?_ ?_
      · kernel_rfl
      · kernel_rfl
      · kernel_rfl
      · kernel_rfl
      · exact (fun _ _ => rfl)
      refine SLc ?_ ?_ ?_
      · rfl
      · refine SE_op2 op_add ?_ ?_
        · refine SE_list ?_
          refine SLc ?_ ?_ ?_
          · rfl
          · refine SE_op2 op_sub ?_ ?_
            · refine eN W 31 ?_
              kernel_rfl
            refine eN W 61 ?_
            kernel_rfl
          exact SL_nil
        refine SF_freeze ?_
        refine SF_rep ?_ ?_
        · refine SE_list ?_
          refine SLc ?_ ?_ ?_
          · rfl
          · exact SE_int
          exact SL_nil
        refine eN W 61 ?_
        kernel_rfl
      refine SLc ?_ ?_ ?_
      · rfl
      · refine eN W 35 ?_
        kernel_rfl
      exact SL_nil
    · exact (fun _ _ => rfl)
    · kernel_rfl
    exact (fun env he => by obtain ⟨sc, _, _, _, _, _, _, _, _⟩ := env; have he2 : sc = _ := he; subst he2; kernel_rfl)
  refine SS_cons ?_ ?_
  · refine S1_if ?_ ?_ ?_
    · refine ST_cmp op_ne ?_ ?_ ?_
      · refine eC W 31 ?_ ?_ ?_ ?_ h_zexact ?_ ?_
        · kernel_rfl
        · kernel_rfl
        · kernel_rfl
        · kernel_rfl
        · exact (fun _ _ => rfl)
        refine SLc ?_ ?_ ?_
        · rfl
        · refine eN W 52 ?_
          kernel_rfl
        refine SLc ?_ ?_ ?_
        · rfl
        · refine SE_list ?_
          refine SLc ?_ ?_ ?_
          · rfl
          · refine SE_op1 op_neg ?_
            exact SE_int
          refine SLc ?_ ?_ ?_
          · rfl
          · exact SE_int
          exact SL_nil
        exact SL_nil
      · refine SE_slice ?_ ?_ ?_ ?_ ?_
        · refine eN W 53 ?_
          kernel_rfl
        · exact SP_none
        · exact SP_none
        · refine SP_some ?_
          refine SE_op1 op_neg ?_
          exact SE_int
        exact ⟨_, fun _ _ => rfl⟩
      exact rfl
    · refine SS_cons ?_ ?_
      · refine S1_ret ?_
        exact SE_bool
      exact SS_nil
    exact SS_nil
  refine SS_cons ?_ ?_
  · refine S1_tup ?_ ?_ ?_ ?_
    · refine SLc ?_ ?_ ?_
      · rfl
      · refine SE_item ?_ ?_ ?_
        · exact (fun _ _ => rfl)
        · refine eN W 48 ?_
          kernel_rfl
        refine eC W 33 ?_ ?_ ?_ ?_ h_law_draw ?_ ?_
        · kernel_rfl
        · kernel_rfl
        · kernel_rfl
        · kernel_rfl
        · exact (fun _ _ => rfl)
        refine SLc ?_ ?_ ?_
        · rfl
        · refine eN W 29 ?_
          kernel_rfl
        refine SLc ?_ ?_ ?_
        · rfl
        · refine eN W 23 ?_
          kernel_rfl
        exact SL_nil
      refine SLc ?_ ?_ ?_
      · rfl
      · refine SE_item ?_ ?_ ?_
        · exact (fun _ _ => rfl)
        · refine eN W 48 ?_
          kernel_rfl
        refine eC W 33 ?_ ?_ ?_ ?_ h_law_draw ?_ ?_
        · kernel_rfl
        · kernel_rfl
        · kernel_rfl
        · kernel_rfl
        · exact (fun _ _ => rfl)
        refine SLc ?_ ?_ ?_
        · rfl
        · refine eN W 29 ?_
          kernel_rfl
        refine SLc ?_ ?_ ?_
        · rfl
        · refine eN W 23 ?_
          kernel_rfl
        exact SL_nil
      exact SL_nil
    · refine TAs.cons ?_ ?_ ?_
      · exact (fun _ => rfl)
      · refine tN W 15 ?_
        kernel_rfl
      refine TAs.cons ?_ ?_ ?_
      · exact (fun _ => rfl)
      · refine tN W 60 ?_
        kernel_rfl
      exact TAs.nil
    · exact (fun _ => rfl)
    exact (fun env he => by obtain ⟨sc, _, _, _, _, _, _, _, _⟩ := env; have he2 : sc = _ := he; subst he2; kernel_rfl)
  refine SS_cons ?_ ?_
  · refine asgC W 54 (ns:=[Str.ofString "at", Str.ofString "one"]) ?_ ?_ ?_ ?_ ?_ ?_ ?_ ?_ ?_
    · refine cOk W [2, 3] ?_
      kernel_rfl
    · refine SI_enum W.ok ?_ ?_ (W.no (by kernel_rfl)) (neb (by kernel_rfl)) ?_ ?_ ?_
      · kernel_rfl
      · kernel_rfl
      · kernel_rfl
      · exact (fun _ _ => rfl)
      refine eN W 15 ?_
      kernel_rfl
    · refine SA_tuple W.nodup ?_
      refine aC W 2 ?_ ?_
      · kernel_rfl
      refine aC W 3 ?_ ?_
      · kernel_rfl
      exact NamesAre.nil
    · kernel_rfl
    · exact (.inl ⟨rfl, rfl⟩)
    · refine SE_list ?_
      refine SLc ?_ ?_ ?_
      · rfl
      · refine SE_op2 op_mul ?_ ?_
        · refine eN W 3 ?_
          kernel_rfl
        refine SE_item ?_ ?_ ?_
        · exact (fun _ _ => rfl)
        · refine eN W 60 ?_
          kernel_rfl
        refine eN W 2 ?_
        kernel_rfl
      exact SL_nil
    · exact (fun _ _ => rfl)
    · kernel_rfl
    exact (fun env he => by obtain ⟨sc, _, _, _, _, _, _, _, _⟩ := env; have he2 : sc = _ := he; subst he2; kernel_rfl)
  refine SS_cons ?_ ?_
  · refine S1_asg ?_ ?_ ?_ ?_ ?_
    · refine eC W 19 ?_ ?_ ?_ ?_ h_whole_mul ?_ ?_
      · kernel_rfl
      · kernel_rfl
      · kernel_rfl
      · kernel_rfl
      · exact (fun _ _ => rfl)
      refine SLc ?_ ?_ ?_
      · rfl
      · refine eC W 19 ?_ ?_ ?_ ?_ h_whole_mul ?_ ?_
        · kernel_rfl
        · kernel_rfl
        · kernel_rfl
        · kernel_rfl
        · exact (fun _ _ => rfl)
        refine SLc ?_ ?_ ?_
        · rfl
        · refine eN W 48 ?_
          kernel_rfl
        refine SLc ?_ ?_ ?_
        · rfl
        · refine eN W 50 ?_
          kernel_rfl
        exact SL_nil
      refine SLc ?_ ?_ ?_
      · rfl
      · refine eN W 54 ?_
        kernel_rfl
      exact SL_nil
    · refine tN W 55 ?_
      kernel_rfl
    · exact (fun _ _ => rfl)
    · exact (fun _ _ => rfl)
    exact (fun _ => rfl)
  refine SS_cons ?_ ?_
  · refine S1_ret ?_
    refine SE_cmp op_eq ?_ ?_ ?_
    · refine SF_freeze ?_
      refine SF_comp1 (ns:=[Str.ofString "row"]) ?_ ?_ ?_ ?_ ?_ ?_ ?_
      · refine cOk W [12] ?_
        kernel_rfl
      · refine SI_any ?_ ?_
        · exact (fun _ _ => rfl)
        refine eN W 55 ?_
        kernel_rfl
      · refine aN W 12 ?_
        kernel_rfl
      · kernel_rfl
      · refine .inr ⟨_, rfl, ?_⟩
        refine ST_or ?_ ?_
        · refine ST_cmp op_ne ?_ ?_ ?_
          · refine SE_op2 op_mod ?_ ?_
            · refine SE_item ?_ ?_ ?_
              · exact (fun _ _ => rfl)
              · refine eN W 12 ?_
                kernel_rfl
              exact SE_int
            refine eN W 56 ?_
            kernel_rfl
          · exact SE_int
          exact rfl
        refine ST_cmp op_lt ?_ ?_ ?_
        · refine SE_item ?_ ?_ ?_
          · exact (fun _ _ => rfl)
          · refine eN W 12 ?_
            kernel_rfl
          exact SE_int
        · exact SE_int
        exact rfl
      · refine eN W 12 ?_
        kernel_rfl
      exact (fun _ _ => rfl)
    · refine SE_list ?_
      exact SL_nil
    exact rfl
  exact SS_nil
theorem ok_law {C : Cx} {ad : Nat → Addr} (W : Wd C ad) : CO C 10 (ad 42) c_law := by
  refine CO_ofH (sc := (fn 42).scope) (body := (fn 42).body) (ps := [Str.ofString "script"]) (is := [45]) (d := b_law) (dp := 9) W.ok ?_ ?_ (s_law W)
  · exact W.at 42 (by kernel_rfl) [Str.ofString "script"] (fun _ _ _ vals h => by
    obtain _ | ⟨_, _ | ⟨_, _⟩⟩ := vals <;> first | (simp at h; done) | kernel_rfl)
  · exact W.fok [45] [Str.ofString "script"] (by kernel_rfl)

end Mine
end

section
set_option autoImplicit false
set_option Elab.async false
set_option maxRecDepth 100000
namespace Mine
section
variable {C : Cx} {dp : Nat} {sc : Scope}

/-- the outermost call: nothing of ours stands yet -/
theorem CO_top (ok : C.Ok) {a : Addr} {ps : List Str} {is : List Nat} {body : List Stmt} {d : DS} (F : FnAt C a ps sc body) (G : FnOk C ps is sc) (hb : SS C dp sc body d)
    {A : Around} {s : Shared} {vs : List Value} {us : List V} {σ' : Sto} {Q : Value → Shared → Prop} {E : Value → Shared → Prop} (hA : ARoom A (dp + 1)) (hbase : s.heap = C.base) (hr : RVs C s.heap [] [] vs us)
    (hd : callD is d us [] = some (.bool true, σ')) (hQ : ∀ h' tk, (∀ b o, C.base.get? b = some o → h'.get? b = some o) → Q (.bool true) { s with heap := h', toks := tk }) :
    wpAny (model C.prog C.w) A (call (.ref a) vs) Q E s := by
  unfold callD at hd
  split at hd
  · cases hd
  · rename_i ρ₀ hp
    obtain ⟨o, fd, ho, hdata, hsc, hbody, hclo, hg, hbl, hcode, hbind⟩ := F.here
    have keep₀ : ∀ b o, C.base.get? b = some o → s.heap.get? b = some o := fun b o e => hbase ▸ e
    have hlen : vs.length = ps.length := by
      have e1 := putAll_length hp
      have e2 := congrArg List.length G.ids
      simp at e2
      rw [hr.1, ← e1, e2]
    have hzip : (ps.zip vs).map (·.1) = ps := by
      rw [List.map_fst_zip]; omega
    have hkn : ∀ x ∈ ps.zip vs, fd.scope.names.lookup x.1 = some .local ∨ fd.scope.names.lookup x.1 = some .cell := fun x m => by
      rw [hsc]
      exact G.params x.1 (List.of_mem_zip m).1
    subst hsc
    refine wpAny_call (codeAny_call_cells (o := o) (fd := fd) (body := body) (binds := ps.zip vs) (by have := hA.2.1; omega) (keep₀ a o ho) hdata (ok.nolimit.keeps keep₀) (hcode.keeps keep₀) hbody (hbind vs hlen) hclo
      (fun x m => (hkn x m).imp_right fun q => ⟨q, cellsFrom_some _ _ _ (.inl q)⟩) ?_ G.co G.gen G.kind)
    intro s₁ I
    obtain ⟨h₁, tk₁, rfl⟩ := I.toInCall.same
    have keep := I.toInCall.keep
    have fresh := I.toInCall.fresh
    have ns := I.toInCall.ns
    generalize hL : s.heap.objs.size = L at I ns fresh
    have nL : s.heap.get? L = none := Heap.get?_none_of_le (by rw [hL]; exact Nat.le_refl _)
    let X₁ := L :: ((callEnvC fd L a).cells.filterMap (fun p => (callEnvC fd L a).cells.lookup p.1))
    have hX₁ : X₁ = L :: ((callEnvC fd L a).cells.filterMap (fun p => (callEnvC fd L a).cells.lookup p.1)) := rfl
    clear_value X₁
    have nC : ∀ x c, (callEnvC fd L a).cells.lookup x = some c → s.heap.get? c = none ∧ c ≠ L := fun x c m => by
      have := I.above x c (mem_of_lookup m)
      have this' : L < c := this
      exact ⟨Heap.get?_none_of_le (by rw [hL]; exact Nat.le_of_lt this'), fun q => Nat.lt_irrefl L (by rw [q] at this'; exact this')⟩
    have memC : ∀ c ∈ (callEnvC fd L a).cells.filterMap (fun p => (callEnvC fd L a).cells.lookup p.1), ∃ x, (callEnvC fd L a).cells.lookup x = some c := fun c m => by
      obtain ⟨p, _, e⟩ := List.mem_filterMap.mp m
      exact ⟨p.1, e⟩
    have hnew : ∀ b ∈ X₁, s.heap.get? b = none := fun b m => by
      rw [hX₁] at m
      rcases List.mem_cons.mp m with rfl | m
      · exact nL
      · obtain ⟨x, e⟩ := memC b m
        exact (nC x b e).1
    have stay : Stay s.heap [] h₁ X₁ := fun b o n e => ⟨keep b o e, fun m => by rw [hnew b m] at e; cases e⟩
    have hthere : ∀ b ∈ X₁, (h₁.get? b).isSome := fun b m => by
      rw [hX₁] at m
      rcases List.mem_cons.mp m with rfl | m
      · obtain ⟨o, _, _, ho, _⟩ := ns
        rw [show h₁.get? b = some o from ho]; rfl
      · obtain ⟨x, e⟩ := memC b m
        obtain ⟨o, ho, _⟩ := I.cell x b e
        rw [show h₁.get? b = some o from ho]; rfl
    have nlive : ∀ b, ¬ Live [] [] b := fun b ⟨n, o, h1, _⟩ => by simp at h1
    have st₁ : St C (callEnvC fd L a) h₁ X₁ [] ρ₀ [] := by
      refine ⟨fun b o e => keep b o (keep₀ b o e), fun b m => hbase ▸ hnew b m, hthere, ⟨G.kind, hg, hbl, ⟨_, ns⟩, by rw [hX₁]; exact .head _, ?_, ?_, ?_, nlive L⟩, ?_, ⟨rfl, List.nodup_nil, (fun _ m => nomatch m), fun b l => absurd l (nlive b), fun n b o h1 _ => by simp at h1⟩⟩
      · intro x hx
        rcases hx with hx | hx
        · obtain ⟨c, m⟩ := cellsFrom_has fd.scope.names (L + 1) [] x (mem_of_lookup hx)
          exact lookup_of_mem m
        · exact absurd hx (G.nofree x)
      · intro x c e
        have e' := nC x c e
        refine ⟨?_, e'.2, ⟨_, I.cell x c e⟩, nlive c⟩
        rw [hX₁]
        exact .tail _ (List.mem_filterMap.mpr ⟨(x, c), mem_of_lookup e, e⟩)
      · intro x y c e1 e2
        exact name_of_addr I.apart (mem_of_lookup e1) (mem_of_lookup e2)
      · intro i x u e1 e2 e3
        rcases lk_putAll hp e2 with q | ⟨j, q1, q2⟩
        · cases q
        · have hx : ps[j]? = some x := by
            have := congrArg (·[j]?) G.ids
            simp only [List.getElem?_map, q1, Option.map_some, e1] at this
            cases hpj : ps[j]? with
            | none => rw [hpj] at this; cases this
            | some y => rw [hpj] at this; simp only [Option.map_some, Option.some.injEq] at this; rw [← this]
          have hj : j < vs.length := by rw [hr.1]; exact (List.getElem?_eq_some_iff.mp q2).1
          have hv : vs[j]? = some vs[j] := List.getElem?_eq_getElem hj
          have hm : (x, vs[j]) ∈ ps.zip vs := by
            have : (ps.zip vs)[j]? = some (x, vs[j]) := by
              rw [List.getElem?_zip_eq_some]; exact ⟨hx, hv⟩
            exact List.mem_of_getElem? this
          have hnd : ((ps.zip vs).map (·.1)).Nodup := by rw [hzip]; exact G.nodup
          refine ⟨vs[j], ?_, (hr.2 j _ u hv q2).stay0 stay⟩
          rcases hkn _ hm with hk | hk
          · exact .inl ⟨hk, _, ns, bindL_get hnd hm hk⟩
          · obtain ⟨c, m⟩ := cellsFrom_has fd.scope.names (L + 1) [] x (mem_of_lookup hk)
            obtain ⟨c', hc'⟩ := lookup_of_mem m
            have hcell := I.cell x c' hc'
            rw [bindC_get hnd hm (by rw [show (callEnvC fd L a).kindOf x = some .cell from hk]; simp)] at hcell
            exact .inr ⟨.inl hk, c', hc', hcell⟩
    have hA' : ARoom (A.deeper (callEnvC fd L a)) dp := by
      refine ⟨hA.1, ?_, ?_⟩
      · show A.depth + 1 + dp + 1 < recursionLimit
        have := hA.2.1; omega
      · show A.units + 3 + 4 * dp + 140 < cLine
        have := hA.2.2; omega
    split at hd
    · cases hd
    · cases hd
    · rename_i u' ρ' σ₂ hd'
      refine hb _ (callEnvC fd L a) { s with heap := h₁, toks := tk₁ } X₁ [] ρ₀ [] _ _ _ _ _ rfl hA' st₁ hd' fun f h' tk X' μ' P Fl => ?_
      obtain ⟨z, rfl, R⟩ := Fl
      have hu : u' = .bool true := by
        cases u' with
        | loc n =>
          simp only [freezeR] at hd
          split at hd
          · split at hd <;> cases hd
          · cases hd
          · cases hd
        | _ => simp only [freezeR, Option.some.injEq, Prod.mk.injEq] at hd; exact hd.1
      subst hu
      show Q z _
      rw [R.bool]
      exact hQ h' tk P.st.keep
end
end Mine
end

section
set_option autoImplicit false
set_option Elab.async false
set_option maxRecDepth 1000000
namespace Mine

noncomputable def seqL : List DS → DS → DS
  | [], k => k
  | d :: ds, k => seqS d (seqL ds k)
theorem seqL_next : ∀ {ds : List DS} {k : DS} {ρ ρ' : Rho} {σ σ' : Sto}, seqL ds nilS ρ σ = some (none, ρ', σ') → seqL ds k ρ σ = k ρ' σ'
  | [], k, ρ, ρ', σ, σ', h => by cases h; rfl
  | d :: ds, k, ρ, ρ', σ, σ', h => by
    simp only [seqL, seqS] at h ⊢
    split at h
    · cases h
    · cases h
    · rename_i ρ₁ σ₁ h1
      exact seqL_next h
noncomputable def segA : List DS := [law_2, law_3]
noncomputable def segC : List DS := [law_5, law_6, law_7, law_8, law_9, law_10, law_11]
noncomputable def segD : List DS := [law_12, law_13, law_14, law_15, law_16, law_17, law_18, law_19, law_20]
noncomputable def segF : List DS := [law_22, law_23, law_24]
theorem b_law_eq : b_law = seqL [law_0] (seqL [law_1] (seqL segA (seqL [law_4] (seqL segC (seqL segD (seqL [law_21] (seqL segF nilS))))))) := rfl
noncomputable def rA0 (n : Int) (sv : V) : Rho := [(45, sv), (29, .loc 0), (31, .int n)]
noncomputable def projD : Option (Option V × Rho × Sto) → Option (List Nat × V × V × V × V × V × Option SO)
  | some (none, ρ, p :: _) => match lk ρ 48 with
    | some T => match lk ρ 50 with
      | some Sp => match lk ρ 56 with
        | some wh => match lk ρ 23 with
          | some mn => match lk ρ 29 with
            | some pl => some (ρ.map Prod.fst, T, Sp, wh, mn, pl, p)
            | none => none
          | none => none
        | none => none
      | none => none
    | none => none
  | _ => none
noncomputable def isYes : Option (Option V × Rho × Sto) → Bool
  | some (some (.bool true), _, _) => true
  | _ => false
noncomputable def rA3 (sv : V) : Rho := [(45, sv), (29, .loc 0), (31, .int 3), (46, .lst [.lst [.int 3], .lst [.int 2, .int 1], .lst [.int 1, .int 1, .int 1]]), (23, .int 3), (56, .int 6)]
noncomputable def rC3 (sv sz : V) : Rho := [(45, sv), (29, .loc 0), (31, .int 3), (46, .lst [.lst [.int 3], .lst [.int 2, .int 1], .lst [.int 1, .int 1, .int 1]]), (23, .int 3), (56, .int 6), (35, sz), (47, .lst [.int 3, .int 2, .int 6]), (48, .lst [.lst [.int 1, .int 1, .int 1], .lst [.int (-1), .int 0, .int 2], .lst [.int 1, .int (-1), .int 1]]), (49, .lst [.lst [.int 1, .int (-1), .int 1], .lst [.int 1, .int 0, .int (-1)], .lst [.int 1, .int 2, .int 1]]), (50, .lst [.lst [.int 2, .int 0, .int 0], .lst [.int 0, .int 3, .int 0], .lst [.int 0, .int 0, .int 1]])]
noncomputable def sC3 (P : Option SO) : Sto := [P, some (.list [.int 1, .int 1, .int 1]), some (.list [.int 0, .int 1, .int 3]), some (.list [.int 0, .int 0, .int 6]), some (.list [.loc 1, .loc 2, .loc 3])]
theorem eA3 (sv : V) (P : Option SO) : seqL segA nilS (rA0 3 sv) [P] = some (none, rA3 sv, [P]) := by kernel_rfl
theorem eC3 (sv sz : V) (P : Option SO) : seqL segC nilS (put 35 sz (rA3 sv)) [P] = some (none, rC3 sv sz, sC3 P) := by kernel_rfl
noncomputable def rA4 (sv : V) : Rho := [(45, sv), (29, .loc 0), (31, .int 4), (46, .lst [.lst [.int 4], .lst [.int 3, .int 1], .lst [.int 2, .int 2], .lst [.int 2, .int 1, .int 1], .lst [.int 1, .int 1, .int 1, .int 1]]), (23, .int 5), (56, .int 24)]
noncomputable def rC4 (sv sz : V) : Rho := [(45, sv), (29, .loc 0), (31, .int 4), (46, .lst [.lst [.int 4], .lst [.int 3, .int 1], .lst [.int 2, .int 2], .lst [.int 2, .int 1, .int 1], .lst [.int 1, .int 1, .int 1, .int 1]]), (23, .int 5), (56, .int 24), (35, sz), (47, .lst [.int 4, .int 3, .int 8, .int 4, .int 24]), (48, .lst [.lst [.int 1, .int 1, .int 1, .int 1, .int 1], .lst [.int (-1), .int 0, .int (-1), .int 1, .int 3], .lst [.int 0, .int (-1), .int 2, .int 0, .int 2], .lst [.int 1, .int 0, .int (-1), .int (-1), .int 3], .lst [.int (-1), .int 1, .int 1, .int (-1), .int 1]]), (49, .lst [.lst [.int 1, .int (-1), .int 0, .int 1, .int (-1)], .lst [.int 1, .int 0, .int (-1), .int 0, .int 1], .lst [.int 1, .int (-1), .int 2, .int (-1), .int 1], .lst [.int 1, .int 1, .int 0, .int (-1), .int (-1)], .lst [.int 1, .int 3, .int 2, .int 3, .int 1]]), (50, .lst [.lst [.int 6, .int 0, .int 0, .int 0, .int 0], .lst [.int 0, .int 8, .int 0, .int 0, .int 0], .lst [.int 0, .int 0, .int 3, .int 0, .int 0], .lst [.int 0, .int 0, .int 0, .int 6, .int 0], .lst [.int 0, .int 0, .int 0, .int 0, .int 1]])]
noncomputable def sC4 (P : Option SO) : Sto := [P, some (.list [.int 1, .int 1, .int 1, .int 1, .int 1]), some (.list [.int 0, .int 1, .int 0, .int 2, .int 4]), some (.list [.int 0, .int 0, .int 2, .int 2, .int 6]), some (.list [.int 0, .int 0, .int 0, .int 4, .int 24]), some (.list [.int 0, .int 0, .int 0, .int 0, .int 96]), some (.list [.loc 1, .loc 2, .loc 3, .loc 4, .loc 5])]
theorem eA4 (sv : V) (P : Option SO) : seqL segA nilS (rA0 4 sv) [P] = some (none, rA4 sv, [P]) := by kernel_rfl
theorem eC4 (sv sz : V) (P : Option SO) : seqL segC nilS (put 35 sz (rA4 sv)) [P] = some (none, rC4 sv sz, sC4 P) := by kernel_rfl
noncomputable def rA5 (sv : V) : Rho := [(45, sv), (29, .loc 0), (31, .int 5), (46, .lst [.lst [.int 5], .lst [.int 4, .int 1], .lst [.int 3, .int 2], .lst [.int 3, .int 1, .int 1], .lst [.int 2, .int 2, .int 1], .lst [.int 2, .int 1, .int 1, .int 1], .lst [.int 1, .int 1, .int 1, .int 1, .int 1]]), (23, .int 7), (56, .int 120)]
noncomputable def rC5 (sv sz : V) : Rho := [(45, sv), (29, .loc 0), (31, .int 5), (46, .lst [.lst [.int 5], .lst [.int 4, .int 1], .lst [.int 3, .int 2], .lst [.int 3, .int 1, .int 1], .lst [.int 2, .int 2, .int 1], .lst [.int 2, .int 1, .int 1, .int 1], .lst [.int 1, .int 1, .int 1, .int 1, .int 1]]), (23, .int 7), (56, .int 120), (35, sz), (47, .lst [.int 5, .int 4, .int 6, .int 6, .int 8, .int 12, .int 120]), (48, .lst [.lst [.int 1, .int 1, .int 1, .int 1, .int 1, .int 1, .int 1], .lst [.int (-1), .int 0, .int (-1), .int 1, .int 0, .int 2, .int 4], .lst [.int 0, .int (-1), .int 1, .int (-1), .int 1, .int 1, .int 5], .lst [.int 1, .int 0, .int 0, .int 0, .int (-2), .int 0, .int 6], .lst [.int 0, .int 1, .int (-1), .int (-1), .int 1, .int (-1), .int 5], .lst [.int (-1), .int 0, .int 1, .int 1, .int 0, .int (-2), .int 4], .lst [.int 1, .int (-1), .int (-1), .int 1, .int 1, .int (-1), .int 1]]), (49, .lst [.lst [.int 1, .int (-1), .int 0, .int 1, .int 0, .int (-1), .int 1], .lst [.int 1, .int 0, .int (-1), .int 0, .int 1, .int 0, .int (-1)], .lst [.int 1, .int (-1), .int 1, .int 0, .int (-1), .int 1, .int (-1)], .lst [.int 1, .int 1, .int (-1), .int 0, .int (-1), .int 1, .int 1], .lst [.int 1, .int 0, .int 1, .int (-2), .int 1, .int 0, .int 1], .lst [.int 1, .int 2, .int 1, .int 0, .int (-1), .int (-2), .int (-1)], .lst [.int 1, .int 4, .int 5, .int 6, .int 5, .int 4, .int 1]]), (50, .lst [.lst [.int 24, .int 0, .int 0, .int 0, .int 0, .int 0, .int 0], .lst [.int 0, .int 30, .int 0, .int 0, .int 0, .int 0, .int 0], .lst [.int 0, .int 0, .int 20, .int 0, .int 0, .int 0, .int 0], .lst [.int 0, .int 0, .int 0, .int 20, .int 0, .int 0, .int 0], .lst [.int 0, .int 0, .int 0, .int 0, .int 15, .int 0, .int 0], .lst [.int 0, .int 0, .int 0, .int 0, .int 0, .int 10, .int 0], .lst [.int 0, .int 0, .int 0, .int 0, .int 0, .int 0, .int 1]])]
noncomputable def sC5 (P : Option SO) : Sto := [P, some (.list [.int 1, .int 1, .int 1, .int 1, .int 1, .int 1, .int 1]), some (.list [.int 0, .int 1, .int 0, .int 2, .int 1, .int 3, .int 5]), some (.list [.int 0, .int 0, .int 1, .int 1, .int 2, .int 4, .int 10]), some (.list [.int 0, .int 0, .int 0, .int 2, .int 0, .int 6, .int 20]), some (.list [.int 0, .int 0, .int 0, .int 0, .int 4, .int 12, .int 60]), some (.list [.int 0, .int 0, .int 0, .int 0, .int 0, .int 24, .int 240]), some (.list [.int 0, .int 0, .int 0, .int 0, .int 0, .int 0, .int 2880]), some (.list [.loc 1, .loc 2, .loc 3, .loc 4, .loc 5, .loc 6, .loc 7])]
theorem eA5 (sv : V) (P : Option SO) : seqL segA nilS (rA0 5 sv) [P] = some (none, rA5 sv, [P]) := by kernel_rfl
theorem eC5 (sv sz : V) (P : Option SO) : seqL segC nilS (put 35 sz (rA5 sv)) [P] = some (none, rC5 sv sz, sC5 P) := by kernel_rfl
end Mine
end

section
set_option autoImplicit false
set_option Elab.async false
set_option maxRecDepth 1000000
namespace Mine
noncomputable def tb3 : V := .lst [.lst [.int 1, .int 1, .int 1], .lst [.int (-1), .int 0, .int 2], .lst [.int 1, .int (-1), .int 1]]
noncomputable def sp3 : V := .lst [.lst [.int 2, .int 0, .int 0], .lst [.int 0, .int 3, .int 0], .lst [.int 0, .int 0, .int 1]]
theorem eD3_0 (sv : V) (P : Option SO) : projD (seqL segD nilS (rC3 sv (.lst [.int 3])) (sC3 P)) = some ([45, 29, 31, 46, 23, 56, 35, 47, 48, 49, 50, 58, 57, 19, 51, 2, 59, 39, 52, 53], tb3, sp3, .int 6, .int 3, .loc 0, P) := by kernel_rfl
theorem eD3_1 (sv : V) (P : Option SO) : projD (seqL segD nilS (rC3 sv (.lst [.int 2, .int 1])) (sC3 P)) = some ([45, 29, 31, 46, 23, 56, 35, 47, 48, 49, 50, 58, 57, 19, 51, 2, 59, 39, 52, 53], tb3, sp3, .int 6, .int 3, .loc 0, P) := by kernel_rfl
theorem eD3_2 (sv : V) (P : Option SO) : projD (seqL segD nilS (rC3 sv (.lst [.int 1, .int 1, .int 1])) (sC3 P)) = some ([45, 29, 31, 46, 23, 56, 35, 47, 48, 49, 50, 58, 57, 19, 51, 2, 59, 39, 52, 53], tb3, sp3, .int 6, .int 3, .loc 0, P) := by kernel_rfl
noncomputable def tb4 : V := .lst [.lst [.int 1, .int 1, .int 1, .int 1, .int 1], .lst [.int (-1), .int 0, .int (-1), .int 1, .int 3], .lst [.int 0, .int (-1), .int 2, .int 0, .int 2], .lst [.int 1, .int 0, .int (-1), .int (-1), .int 3], .lst [.int (-1), .int 1, .int 1, .int (-1), .int 1]]
noncomputable def sp4 : V := .lst [.lst [.int 6, .int 0, .int 0, .int 0, .int 0], .lst [.int 0, .int 8, .int 0, .int 0, .int 0], .lst [.int 0, .int 0, .int 3, .int 0, .int 0], .lst [.int 0, .int 0, .int 0, .int 6, .int 0], .lst [.int 0, .int 0, .int 0, .int 0, .int 1]]
theorem eD4_0 (sv : V) (P : Option SO) : projD (seqL segD nilS (rC4 sv (.lst [.int 4])) (sC4 P)) = some ([45, 29, 31, 46, 23, 56, 35, 47, 48, 49, 50, 58, 57, 19, 51, 2, 59, 39, 52, 53], tb4, sp4, .int 24, .int 5, .loc 0, P) := by kernel_rfl
theorem eD4_1 (sv : V) (P : Option SO) : projD (seqL segD nilS (rC4 sv (.lst [.int 3, .int 1])) (sC4 P)) = some ([45, 29, 31, 46, 23, 56, 35, 47, 48, 49, 50, 58, 57, 19, 51, 2, 59, 39, 52, 53], tb4, sp4, .int 24, .int 5, .loc 0, P) := by kernel_rfl
theorem eD4_2 (sv : V) (P : Option SO) : projD (seqL segD nilS (rC4 sv (.lst [.int 2, .int 2])) (sC4 P)) = some ([45, 29, 31, 46, 23, 56, 35, 47, 48, 49, 50, 58, 57, 19, 51, 2, 59, 39, 52, 53], tb4, sp4, .int 24, .int 5, .loc 0, P) := by kernel_rfl
theorem eD4_3 (sv : V) (P : Option SO) : projD (seqL segD nilS (rC4 sv (.lst [.int 2, .int 1, .int 1])) (sC4 P)) = some ([45, 29, 31, 46, 23, 56, 35, 47, 48, 49, 50, 58, 57, 19, 51, 2, 59, 39, 52, 53], tb4, sp4, .int 24, .int 5, .loc 0, P) := by kernel_rfl
theorem eD4_4 (sv : V) (P : Option SO) : projD (seqL segD nilS (rC4 sv (.lst [.int 1, .int 1, .int 1, .int 1])) (sC4 P)) = some ([45, 29, 31, 46, 23, 56, 35, 47, 48, 49, 50, 58, 57, 19, 51, 2, 59, 39, 52, 53], tb4, sp4, .int 24, .int 5, .loc 0, P) := by kernel_rfl
noncomputable def tb5 : V := .lst [.lst [.int 1, .int 1, .int 1, .int 1, .int 1, .int 1, .int 1], .lst [.int (-1), .int 0, .int (-1), .int 1, .int 0, .int 2, .int 4], .lst [.int 0, .int (-1), .int 1, .int (-1), .int 1, .int 1, .int 5], .lst [.int 1, .int 0, .int 0, .int 0, .int (-2), .int 0, .int 6], .lst [.int 0, .int 1, .int (-1), .int (-1), .int 1, .int (-1), .int 5], .lst [.int (-1), .int 0, .int 1, .int 1, .int 0, .int (-2), .int 4], .lst [.int 1, .int (-1), .int (-1), .int 1, .int 1, .int (-1), .int 1]]
noncomputable def sp5 : V := .lst [.lst [.int 24, .int 0, .int 0, .int 0, .int 0, .int 0, .int 0], .lst [.int 0, .int 30, .int 0, .int 0, .int 0, .int 0, .int 0], .lst [.int 0, .int 0, .int 20, .int 0, .int 0, .int 0, .int 0], .lst [.int 0, .int 0, .int 0, .int 20, .int 0, .int 0, .int 0], .lst [.int 0, .int 0, .int 0, .int 0, .int 15, .int 0, .int 0], .lst [.int 0, .int 0, .int 0, .int 0, .int 0, .int 10, .int 0], .lst [.int 0, .int 0, .int 0, .int 0, .int 0, .int 0, .int 1]]
theorem eD5_0 (sv : V) (P : Option SO) : projD (seqL segD nilS (rC5 sv (.lst [.int 5])) (sC5 P)) = some ([45, 29, 31, 46, 23, 56, 35, 47, 48, 49, 50, 58, 57, 19, 51, 2, 59, 39, 52, 53], tb5, sp5, .int 120, .int 7, .loc 0, P) := by kernel_rfl
theorem eD5_1 (sv : V) (P : Option SO) : projD (seqL segD nilS (rC5 sv (.lst [.int 4, .int 1])) (sC5 P)) = some ([45, 29, 31, 46, 23, 56, 35, 47, 48, 49, 50, 58, 57, 19, 51, 2, 59, 39, 52, 53], tb5, sp5, .int 120, .int 7, .loc 0, P) := by kernel_rfl
theorem eD5_2 (sv : V) (P : Option SO) : projD (seqL segD nilS (rC5 sv (.lst [.int 3, .int 2])) (sC5 P)) = some ([45, 29, 31, 46, 23, 56, 35, 47, 48, 49, 50, 58, 57, 19, 51, 2, 59, 39, 52, 53], tb5, sp5, .int 120, .int 7, .loc 0, P) := by kernel_rfl
theorem eD5_3 (sv : V) (P : Option SO) : projD (seqL segD nilS (rC5 sv (.lst [.int 3, .int 1, .int 1])) (sC5 P)) = some ([45, 29, 31, 46, 23, 56, 35, 47, 48, 49, 50, 58, 57, 19, 51, 2, 59, 39, 52, 53], tb5, sp5, .int 120, .int 7, .loc 0, P) := by kernel_rfl
theorem eD5_4 (sv : V) (P : Option SO) : projD (seqL segD nilS (rC5 sv (.lst [.int 2, .int 2, .int 1])) (sC5 P)) = some ([45, 29, 31, 46, 23, 56, 35, 47, 48, 49, 50, 58, 57, 19, 51, 2, 59, 39, 52, 53], tb5, sp5, .int 120, .int 7, .loc 0, P) := by kernel_rfl
theorem eD5_5 (sv : V) (P : Option SO) : projD (seqL segD nilS (rC5 sv (.lst [.int 2, .int 1, .int 1, .int 1])) (sC5 P)) = some ([45, 29, 31, 46, 23, 56, 35, 47, 48, 49, 50, 58, 57, 19, 51, 2, 59, 39, 52, 53], tb5, sp5, .int 120, .int 7, .loc 0, P) := by kernel_rfl
theorem eD5_6 (sv : V) (P : Option SO) : projD (seqL segD nilS (rC5 sv (.lst [.int 1, .int 1, .int 1, .int 1, .int 1])) (sC5 P)) = some ([45, 29, 31, 46, 23, 56, 35, 47, 48, 49, 50, 58, 57, 19, 51, 2, 59, 39, 52, 53], tb5, sp5, .int 120, .int 7, .loc 0, P) := by kernel_rfl
end Mine
end

section
set_option autoImplicit false
set_option Elab.async false
set_option maxRecDepth 1000000
namespace Mine
noncomputable def rD (v0 v1 v2 v3 v4 v5 v6 v7 v8 v9 v10 v11 v12 v13 v14 v15 v16 v17 v18 v19 : V) : Rho := [(45, v0), (29, v1), (31, v2), (46, v3), (23, v4), (56, v5), (35, v6), (47, v7), (48, v8), (49, v9), (50, v10), (58, v11), (57, v12), (19, v13), (51, v14), (2, v15), (59, v16), (39, v17), (52, v18), (53, v19)]

noncomputable def law_23' (m : V) : DS := asgS (callE c_whole_mul (consL (constD m) (consL (nameD 54) (nilL)))) (nameT 55)
theorem step23 {ρ : Rho} {σ : Sto} {t s m : V} (h1 : lk ρ 48 = some t) (h2 : lk ρ 50 = some s) (h3 : c_whole_mul [t, s] σ = some (m, σ)) : law_23 ρ σ = law_23' m ρ σ := by
  simp only [law_23, law_23', asgS, callE, consL, nameD, nilL, constD, h1, h2, h3]
theorem segF_eq {ρ : Rho} {t s m : V} (h1 : lk ρ 48 = some t) (h2 : lk ρ 50 = some s) (h3 : ∀ σ, c_whole_mul [t, s] σ = some (m, σ)) (σ : Sto) : seqL segF nilS ρ σ = seqL [law_22, law_23' m, law_24] nilS ρ σ := by
  simp only [seqL, segF, seqS, law_22, asgS, nameT]
  split
  · rfl
  · rename_i e
    split at e <;> cases e
  · rename_i ρ' σ' e
    split at e
    · cases e
    · rename_i v σ₁ _
      simp only [Option.some.injEq, Prod.mk.injEq, true_and] at e
      obtain ⟨rfl, rfl⟩ := e
      rw [step23 (t := t) (s := s) (m := m) (by rw [lk_put, if_neg (by decide)]; exact h1) (by rw [lk_put, if_neg (by decide)]; exact h2) (h3 _)]
noncomputable def pr3 : V := .lst [.lst [.int 2, .int 3, .int 1], .lst [.int (-2), .int 0, .int 2], .lst [.int 2, .int (-3), .int 1]]
theorem eG3 (σ : Sto) : c_whole_mul [tb3, sp3] σ = some (pr3, σ) := by kernel_rfl
noncomputable def pr4 : V := .lst [.lst [.int 6, .int 8, .int 3, .int 6, .int 1], .lst [.int (-6), .int 0, .int (-3), .int 6, .int 3], .lst [.int 0, .int (-8), .int 6, .int 0, .int 2], .lst [.int 6, .int 0, .int (-3), .int (-6), .int 3], .lst [.int (-6), .int 8, .int 3, .int (-6), .int 1]]
theorem eG4 (σ : Sto) : c_whole_mul [tb4, sp4] σ = some (pr4, σ) := by kernel_rfl
noncomputable def pr5 : V := .lst [.lst [.int 24, .int 30, .int 20, .int 20, .int 15, .int 10, .int 1], .lst [.int (-24), .int 0, .int (-20), .int 20, .int 0, .int 20, .int 4], .lst [.int 0, .int (-30), .int 20, .int (-20), .int 15, .int 10, .int 5], .lst [.int 24, .int 0, .int 0, .int 0, .int (-30), .int 0, .int 6], .lst [.int 0, .int 30, .int (-20), .int (-20), .int 15, .int (-10), .int 5], .lst [.int (-24), .int 0, .int 20, .int 20, .int 0, .int (-20), .int 4], .lst [.int 24, .int (-30), .int (-20), .int 20, .int 15, .int (-10), .int 1]]
theorem eG5 (σ : Sto) : c_whole_mul [tb5, sp5] σ = some (pr5, σ) := by kernel_rfl
theorem eF3_0_0 (v0 v2 v3 v6 v7 v9 v11 v12 v13 v14 v15 v16 v17 v18 v19 : V) (σ : Sto) : isYes (seqL segF nilS (put 60 (.lst [.int 1, .int 1, .int 1]) (put 15 (.lst [.int 1, .int 1, .int 1]) (rD v0 (.loc 0) v2 v3 (.int 3) (.int 6) v6 v7 tb3 v9 sp3 v11 v12 v13 v14 v15 v16 v17 v18 v19))) σ) = true := by rw [segF_eq (t := tb3) (s := sp3) rfl rfl eG3]; kernel_rfl
theorem eF3_0_1 (v0 v2 v3 v6 v7 v9 v11 v12 v13 v14 v15 v16 v17 v18 v19 : V) (σ : Sto) : isYes (seqL segF nilS (put 60 (.lst [.int (-1), .int 0, .int 2]) (put 15 (.lst [.int 1, .int 1, .int 1]) (rD v0 (.loc 0) v2 v3 (.int 3) (.int 6) v6 v7 tb3 v9 sp3 v11 v12 v13 v14 v15 v16 v17 v18 v19))) σ) = true := by rw [segF_eq (t := tb3) (s := sp3) rfl rfl eG3]; kernel_rfl
theorem eF3_0_2 (v0 v2 v3 v6 v7 v9 v11 v12 v13 v14 v15 v16 v17 v18 v19 : V) (σ : Sto) : isYes (seqL segF nilS (put 60 (.lst [.int 1, .int (-1), .int 1]) (put 15 (.lst [.int 1, .int 1, .int 1]) (rD v0 (.loc 0) v2 v3 (.int 3) (.int 6) v6 v7 tb3 v9 sp3 v11 v12 v13 v14 v15 v16 v17 v18 v19))) σ) = true := by rw [segF_eq (t := tb3) (s := sp3) rfl rfl eG3]; kernel_rfl
theorem eF3_1_0 (v0 v2 v3 v6 v7 v9 v11 v12 v13 v14 v15 v16 v17 v18 v19 : V) (σ : Sto) : isYes (seqL segF nilS (put 60 (.lst [.int 1, .int 1, .int 1]) (put 15 (.lst [.int (-1), .int 0, .int 2]) (rD v0 (.loc 0) v2 v3 (.int 3) (.int 6) v6 v7 tb3 v9 sp3 v11 v12 v13 v14 v15 v16 v17 v18 v19))) σ) = true := by rw [segF_eq (t := tb3) (s := sp3) rfl rfl eG3]; kernel_rfl
theorem eF3_1_1 (v0 v2 v3 v6 v7 v9 v11 v12 v13 v14 v15 v16 v17 v18 v19 : V) (σ : Sto) : isYes (seqL segF nilS (put 60 (.lst [.int (-1), .int 0, .int 2]) (put 15 (.lst [.int (-1), .int 0, .int 2]) (rD v0 (.loc 0) v2 v3 (.int 3) (.int 6) v6 v7 tb3 v9 sp3 v11 v12 v13 v14 v15 v16 v17 v18 v19))) σ) = true := by rw [segF_eq (t := tb3) (s := sp3) rfl rfl eG3]; kernel_rfl
theorem eF3_1_2 (v0 v2 v3 v6 v7 v9 v11 v12 v13 v14 v15 v16 v17 v18 v19 : V) (σ : Sto) : isYes (seqL segF nilS (put 60 (.lst [.int 1, .int (-1), .int 1]) (put 15 (.lst [.int (-1), .int 0, .int 2]) (rD v0 (.loc 0) v2 v3 (.int 3) (.int 6) v6 v7 tb3 v9 sp3 v11 v12 v13 v14 v15 v16 v17 v18 v19))) σ) = true := by rw [segF_eq (t := tb3) (s := sp3) rfl rfl eG3]; kernel_rfl
theorem eF3_2_0 (v0 v2 v3 v6 v7 v9 v11 v12 v13 v14 v15 v16 v17 v18 v19 : V) (σ : Sto) : isYes (seqL segF nilS (put 60 (.lst [.int 1, .int 1, .int 1]) (put 15 (.lst [.int 1, .int (-1), .int 1]) (rD v0 (.loc 0) v2 v3 (.int 3) (.int 6) v6 v7 tb3 v9 sp3 v11 v12 v13 v14 v15 v16 v17 v18 v19))) σ) = true := by rw [segF_eq (t := tb3) (s := sp3) rfl rfl eG3]; kernel_rfl
theorem eF3_2_1 (v0 v2 v3 v6 v7 v9 v11 v12 v13 v14 v15 v16 v17 v18 v19 : V) (σ : Sto) : isYes (seqL segF nilS (put 60 (.lst [.int (-1), .int 0, .int 2]) (put 15 (.lst [.int 1, .int (-1), .int 1]) (rD v0 (.loc 0) v2 v3 (.int 3) (.int 6) v6 v7 tb3 v9 sp3 v11 v12 v13 v14 v15 v16 v17 v18 v19))) σ) = true := by rw [segF_eq (t := tb3) (s := sp3) rfl rfl eG3]; kernel_rfl
theorem eF3_2_2 (v0 v2 v3 v6 v7 v9 v11 v12 v13 v14 v15 v16 v17 v18 v19 : V) (σ : Sto) : isYes (seqL segF nilS (put 60 (.lst [.int 1, .int (-1), .int 1]) (put 15 (.lst [.int 1, .int (-1), .int 1]) (rD v0 (.loc 0) v2 v3 (.int 3) (.int 6) v6 v7 tb3 v9 sp3 v11 v12 v13 v14 v15 v16 v17 v18 v19))) σ) = true := by rw [segF_eq (t := tb3) (s := sp3) rfl rfl eG3]; kernel_rfl
theorem eF4_0_0 (v0 v2 v3 v6 v7 v9 v11 v12 v13 v14 v15 v16 v17 v18 v19 : V) (σ : Sto) : isYes (seqL segF nilS (put 60 (.lst [.int 1, .int 1, .int 1, .int 1, .int 1]) (put 15 (.lst [.int 1, .int 1, .int 1, .int 1, .int 1]) (rD v0 (.loc 0) v2 v3 (.int 5) (.int 24) v6 v7 tb4 v9 sp4 v11 v12 v13 v14 v15 v16 v17 v18 v19))) σ) = true := by rw [segF_eq (t := tb4) (s := sp4) rfl rfl eG4]; kernel_rfl
theorem eF4_0_1 (v0 v2 v3 v6 v7 v9 v11 v12 v13 v14 v15 v16 v17 v18 v19 : V) (σ : Sto) : isYes (seqL segF nilS (put 60 (.lst [.int (-1), .int 0, .int (-1), .int 1, .int 3]) (put 15 (.lst [.int 1, .int 1, .int 1, .int 1, .int 1]) (rD v0 (.loc 0) v2 v3 (.int 5) (.int 24) v6 v7 tb4 v9 sp4 v11 v12 v13 v14 v15 v16 v17 v18 v19))) σ) = true := by rw [segF_eq (t := tb4) (s := sp4) rfl rfl eG4]; kernel_rfl
theorem eF4_0_2 (v0 v2 v3 v6 v7 v9 v11 v12 v13 v14 v15 v16 v17 v18 v19 : V) (σ : Sto) : isYes (seqL segF nilS (put 60 (.lst [.int 0, .int (-1), .int 2, .int 0, .int 2]) (put 15 (.lst [.int 1, .int 1, .int 1, .int 1, .int 1]) (rD v0 (.loc 0) v2 v3 (.int 5) (.int 24) v6 v7 tb4 v9 sp4 v11 v12 v13 v14 v15 v16 v17 v18 v19))) σ) = true := by rw [segF_eq (t := tb4) (s := sp4) rfl rfl eG4]; kernel_rfl
theorem eF4_0_3 (v0 v2 v3 v6 v7 v9 v11 v12 v13 v14 v15 v16 v17 v18 v19 : V) (σ : Sto) : isYes (seqL segF nilS (put 60 (.lst [.int 1, .int 0, .int (-1), .int (-1), .int 3]) (put 15 (.lst [.int 1, .int 1, .int 1, .int 1, .int 1]) (rD v0 (.loc 0) v2 v3 (.int 5) (.int 24) v6 v7 tb4 v9 sp4 v11 v12 v13 v14 v15 v16 v17 v18 v19))) σ) = true := by rw [segF_eq (t := tb4) (s := sp4) rfl rfl eG4]; kernel_rfl
theorem eF4_0_4 (v0 v2 v3 v6 v7 v9 v11 v12 v13 v14 v15 v16 v17 v18 v19 : V) (σ : Sto) : isYes (seqL segF nilS (put 60 (.lst [.int (-1), .int 1, .int 1, .int (-1), .int 1]) (put 15 (.lst [.int 1, .int 1, .int 1, .int 1, .int 1]) (rD v0 (.loc 0) v2 v3 (.int 5) (.int 24) v6 v7 tb4 v9 sp4 v11 v12 v13 v14 v15 v16 v17 v18 v19))) σ) = true := by rw [segF_eq (t := tb4) (s := sp4) rfl rfl eG4]; kernel_rfl
theorem eF4_1_0 (v0 v2 v3 v6 v7 v9 v11 v12 v13 v14 v15 v16 v17 v18 v19 : V) (σ : Sto) : isYes (seqL segF nilS (put 60 (.lst [.int 1, .int 1, .int 1, .int 1, .int 1]) (put 15 (.lst [.int (-1), .int 0, .int (-1), .int 1, .int 3]) (rD v0 (.loc 0) v2 v3 (.int 5) (.int 24) v6 v7 tb4 v9 sp4 v11 v12 v13 v14 v15 v16 v17 v18 v19))) σ) = true := by rw [segF_eq (t := tb4) (s := sp4) rfl rfl eG4]; kernel_rfl
theorem eF4_1_1 (v0 v2 v3 v6 v7 v9 v11 v12 v13 v14 v15 v16 v17 v18 v19 : V) (σ : Sto) : isYes (seqL segF nilS (put 60 (.lst [.int (-1), .int 0, .int (-1), .int 1, .int 3]) (put 15 (.lst [.int (-1), .int 0, .int (-1), .int 1, .int 3]) (rD v0 (.loc 0) v2 v3 (.int 5) (.int 24) v6 v7 tb4 v9 sp4 v11 v12 v13 v14 v15 v16 v17 v18 v19))) σ) = true := by rw [segF_eq (t := tb4) (s := sp4) rfl rfl eG4]; kernel_rfl
theorem eF4_1_2 (v0 v2 v3 v6 v7 v9 v11 v12 v13 v14 v15 v16 v17 v18 v19 : V) (σ : Sto) : isYes (seqL segF nilS (put 60 (.lst [.int 0, .int (-1), .int 2, .int 0, .int 2]) (put 15 (.lst [.int (-1), .int 0, .int (-1), .int 1, .int 3]) (rD v0 (.loc 0) v2 v3 (.int 5) (.int 24) v6 v7 tb4 v9 sp4 v11 v12 v13 v14 v15 v16 v17 v18 v19))) σ) = true := by rw [segF_eq (t := tb4) (s := sp4) rfl rfl eG4]; kernel_rfl
theorem eF4_1_3 (v0 v2 v3 v6 v7 v9 v11 v12 v13 v14 v15 v16 v17 v18 v19 : V) (σ : Sto) : isYes (seqL segF nilS (put 60 (.lst [.int 1, .int 0, .int (-1), .int (-1), .int 3]) (put 15 (.lst [.int (-1), .int 0, .int (-1), .int 1, .int 3]) (rD v0 (.loc 0) v2 v3 (.int 5) (.int 24) v6 v7 tb4 v9 sp4 v11 v12 v13 v14 v15 v16 v17 v18 v19))) σ) = true := by rw [segF_eq (t := tb4) (s := sp4) rfl rfl eG4]; kernel_rfl
theorem eF4_1_4 (v0 v2 v3 v6 v7 v9 v11 v12 v13 v14 v15 v16 v17 v18 v19 : V) (σ : Sto) : isYes (seqL segF nilS (put 60 (.lst [.int (-1), .int 1, .int 1, .int (-1), .int 1]) (put 15 (.lst [.int (-1), .int 0, .int (-1), .int 1, .int 3]) (rD v0 (.loc 0) v2 v3 (.int 5) (.int 24) v6 v7 tb4 v9 sp4 v11 v12 v13 v14 v15 v16 v17 v18 v19))) σ) = true := by rw [segF_eq (t := tb4) (s := sp4) rfl rfl eG4]; kernel_rfl
theorem eF4_2_0 (v0 v2 v3 v6 v7 v9 v11 v12 v13 v14 v15 v16 v17 v18 v19 : V) (σ : Sto) : isYes (seqL segF nilS (put 60 (.lst [.int 1, .int 1, .int 1, .int 1, .int 1]) (put 15 (.lst [.int 0, .int (-1), .int 2, .int 0, .int 2]) (rD v0 (.loc 0) v2 v3 (.int 5) (.int 24) v6 v7 tb4 v9 sp4 v11 v12 v13 v14 v15 v16 v17 v18 v19))) σ) = true := by rw [segF_eq (t := tb4) (s := sp4) rfl rfl eG4]; kernel_rfl
theorem eF4_2_1 (v0 v2 v3 v6 v7 v9 v11 v12 v13 v14 v15 v16 v17 v18 v19 : V) (σ : Sto) : isYes (seqL segF nilS (put 60 (.lst [.int (-1), .int 0, .int (-1), .int 1, .int 3]) (put 15 (.lst [.int 0, .int (-1), .int 2, .int 0, .int 2]) (rD v0 (.loc 0) v2 v3 (.int 5) (.int 24) v6 v7 tb4 v9 sp4 v11 v12 v13 v14 v15 v16 v17 v18 v19))) σ) = true := by rw [segF_eq (t := tb4) (s := sp4) rfl rfl eG4]; kernel_rfl
theorem eF4_2_2 (v0 v2 v3 v6 v7 v9 v11 v12 v13 v14 v15 v16 v17 v18 v19 : V) (σ : Sto) : isYes (seqL segF nilS (put 60 (.lst [.int 0, .int (-1), .int 2, .int 0, .int 2]) (put 15 (.lst [.int 0, .int (-1), .int 2, .int 0, .int 2]) (rD v0 (.loc 0) v2 v3 (.int 5) (.int 24) v6 v7 tb4 v9 sp4 v11 v12 v13 v14 v15 v16 v17 v18 v19))) σ) = true := by rw [segF_eq (t := tb4) (s := sp4) rfl rfl eG4]; kernel_rfl
theorem eF4_2_3 (v0 v2 v3 v6 v7 v9 v11 v12 v13 v14 v15 v16 v17 v18 v19 : V) (σ : Sto) : isYes (seqL segF nilS (put 60 (.lst [.int 1, .int 0, .int (-1), .int (-1), .int 3]) (put 15 (.lst [.int 0, .int (-1), .int 2, .int 0, .int 2]) (rD v0 (.loc 0) v2 v3 (.int 5) (.int 24) v6 v7 tb4 v9 sp4 v11 v12 v13 v14 v15 v16 v17 v18 v19))) σ) = true := by rw [segF_eq (t := tb4) (s := sp4) rfl rfl eG4]; kernel_rfl
theorem eF4_2_4 (v0 v2 v3 v6 v7 v9 v11 v12 v13 v14 v15 v16 v17 v18 v19 : V) (σ : Sto) : isYes (seqL segF nilS (put 60 (.lst [.int (-1), .int 1, .int 1, .int (-1), .int 1]) (put 15 (.lst [.int 0, .int (-1), .int 2, .int 0, .int 2]) (rD v0 (.loc 0) v2 v3 (.int 5) (.int 24) v6 v7 tb4 v9 sp4 v11 v12 v13 v14 v15 v16 v17 v18 v19))) σ) = true := by rw [segF_eq (t := tb4) (s := sp4) rfl rfl eG4]; kernel_rfl
theorem eF4_3_0 (v0 v2 v3 v6 v7 v9 v11 v12 v13 v14 v15 v16 v17 v18 v19 : V) (σ : Sto) : isYes (seqL segF nilS (put 60 (.lst [.int 1, .int 1, .int 1, .int 1, .int 1]) (put 15 (.lst [.int 1, .int 0, .int (-1), .int (-1), .int 3]) (rD v0 (.loc 0) v2 v3 (.int 5) (.int 24) v6 v7 tb4 v9 sp4 v11 v12 v13 v14 v15 v16 v17 v18 v19))) σ) = true := by rw [segF_eq (t := tb4) (s := sp4) rfl rfl eG4]; kernel_rfl
theorem eF4_3_1 (v0 v2 v3 v6 v7 v9 v11 v12 v13 v14 v15 v16 v17 v18 v19 : V) (σ : Sto) : isYes (seqL segF nilS (put 60 (.lst [.int (-1), .int 0, .int (-1), .int 1, .int 3]) (put 15 (.lst [.int 1, .int 0, .int (-1), .int (-1), .int 3]) (rD v0 (.loc 0) v2 v3 (.int 5) (.int 24) v6 v7 tb4 v9 sp4 v11 v12 v13 v14 v15 v16 v17 v18 v19))) σ) = true := by rw [segF_eq (t := tb4) (s := sp4) rfl rfl eG4]; kernel_rfl
theorem eF4_3_2 (v0 v2 v3 v6 v7 v9 v11 v12 v13 v14 v15 v16 v17 v18 v19 : V) (σ : Sto) : isYes (seqL segF nilS (put 60 (.lst [.int 0, .int (-1), .int 2, .int 0, .int 2]) (put 15 (.lst [.int 1, .int 0, .int (-1), .int (-1), .int 3]) (rD v0 (.loc 0) v2 v3 (.int 5) (.int 24) v6 v7 tb4 v9 sp4 v11 v12 v13 v14 v15 v16 v17 v18 v19))) σ) = true := by rw [segF_eq (t := tb4) (s := sp4) rfl rfl eG4]; kernel_rfl
theorem eF4_3_3 (v0 v2 v3 v6 v7 v9 v11 v12 v13 v14 v15 v16 v17 v18 v19 : V) (σ : Sto) : isYes (seqL segF nilS (put 60 (.lst [.int 1, .int 0, .int (-1), .int (-1), .int 3]) (put 15 (.lst [.int 1, .int 0, .int (-1), .int (-1), .int 3]) (rD v0 (.loc 0) v2 v3 (.int 5) (.int 24) v6 v7 tb4 v9 sp4 v11 v12 v13 v14 v15 v16 v17 v18 v19))) σ) = true := by rw [segF_eq (t := tb4) (s := sp4) rfl rfl eG4]; kernel_rfl
theorem eF4_3_4 (v0 v2 v3 v6 v7 v9 v11 v12 v13 v14 v15 v16 v17 v18 v19 : V) (σ : Sto) : isYes (seqL segF nilS (put 60 (.lst [.int (-1), .int 1, .int 1, .int (-1), .int 1]) (put 15 (.lst [.int 1, .int 0, .int (-1), .int (-1), .int 3]) (rD v0 (.loc 0) v2 v3 (.int 5) (.int 24) v6 v7 tb4 v9 sp4 v11 v12 v13 v14 v15 v16 v17 v18 v19))) σ) = true := by rw [segF_eq (t := tb4) (s := sp4) rfl rfl eG4]; kernel_rfl
theorem eF4_4_0 (v0 v2 v3 v6 v7 v9 v11 v12 v13 v14 v15 v16 v17 v18 v19 : V) (σ : Sto) : isYes (seqL segF nilS (put 60 (.lst [.int 1, .int 1, .int 1, .int 1, .int 1]) (put 15 (.lst [.int (-1), .int 1, .int 1, .int (-1), .int 1]) (rD v0 (.loc 0) v2 v3 (.int 5) (.int 24) v6 v7 tb4 v9 sp4 v11 v12 v13 v14 v15 v16 v17 v18 v19))) σ) = true := by rw [segF_eq (t := tb4) (s := sp4) rfl rfl eG4]; kernel_rfl
theorem eF4_4_1 (v0 v2 v3 v6 v7 v9 v11 v12 v13 v14 v15 v16 v17 v18 v19 : V) (σ : Sto) : isYes (seqL segF nilS (put 60 (.lst [.int (-1), .int 0, .int (-1), .int 1, .int 3]) (put 15 (.lst [.int (-1), .int 1, .int 1, .int (-1), .int 1]) (rD v0 (.loc 0) v2 v3 (.int 5) (.int 24) v6 v7 tb4 v9 sp4 v11 v12 v13 v14 v15 v16 v17 v18 v19))) σ) = true := by rw [segF_eq (t := tb4) (s := sp4) rfl rfl eG4]; kernel_rfl
theorem eF4_4_2 (v0 v2 v3 v6 v7 v9 v11 v12 v13 v14 v15 v16 v17 v18 v19 : V) (σ : Sto) : isYes (seqL segF nilS (put 60 (.lst [.int 0, .int (-1), .int 2, .int 0, .int 2]) (put 15 (.lst [.int (-1), .int 1, .int 1, .int (-1), .int 1]) (rD v0 (.loc 0) v2 v3 (.int 5) (.int 24) v6 v7 tb4 v9 sp4 v11 v12 v13 v14 v15 v16 v17 v18 v19))) σ) = true := by rw [segF_eq (t := tb4) (s := sp4) rfl rfl eG4]; kernel_rfl
theorem eF4_4_3 (v0 v2 v3 v6 v7 v9 v11 v12 v13 v14 v15 v16 v17 v18 v19 : V) (σ : Sto) : isYes (seqL segF nilS (put 60 (.lst [.int 1, .int 0, .int (-1), .int (-1), .int 3]) (put 15 (.lst [.int (-1), .int 1, .int 1, .int (-1), .int 1]) (rD v0 (.loc 0) v2 v3 (.int 5) (.int 24) v6 v7 tb4 v9 sp4 v11 v12 v13 v14 v15 v16 v17 v18 v19))) σ) = true := by rw [segF_eq (t := tb4) (s := sp4) rfl rfl eG4]; kernel_rfl
theorem eF4_4_4 (v0 v2 v3 v6 v7 v9 v11 v12 v13 v14 v15 v16 v17 v18 v19 : V) (σ : Sto) : isYes (seqL segF nilS (put 60 (.lst [.int (-1), .int 1, .int 1, .int (-1), .int 1]) (put 15 (.lst [.int (-1), .int 1, .int 1, .int (-1), .int 1]) (rD v0 (.loc 0) v2 v3 (.int 5) (.int 24) v6 v7 tb4 v9 sp4 v11 v12 v13 v14 v15 v16 v17 v18 v19))) σ) = true := by rw [segF_eq (t := tb4) (s := sp4) rfl rfl eG4]; kernel_rfl
theorem eF5_0_0 (v0 v2 v3 v6 v7 v9 v11 v12 v13 v14 v15 v16 v17 v18 v19 : V) (σ : Sto) : isYes (seqL segF nilS (put 60 (.lst [.int 1, .int 1, .int 1, .int 1, .int 1, .int 1, .int 1]) (put 15 (.lst [.int 1, .int 1, .int 1, .int 1, .int 1, .int 1, .int 1]) (rD v0 (.loc 0) v2 v3 (.int 7) (.int 120) v6 v7 tb5 v9 sp5 v11 v12 v13 v14 v15 v16 v17 v18 v19))) σ) = true := by rw [segF_eq (t := tb5) (s := sp5) rfl rfl eG5]; kernel_rfl
theorem eF5_0_1 (v0 v2 v3 v6 v7 v9 v11 v12 v13 v14 v15 v16 v17 v18 v19 : V) (σ : Sto) : isYes (seqL segF nilS (put 60 (.lst [.int (-1), .int 0, .int (-1), .int 1, .int 0, .int 2, .int 4]) (put 15 (.lst [.int 1, .int 1, .int 1, .int 1, .int 1, .int 1, .int 1]) (rD v0 (.loc 0) v2 v3 (.int 7) (.int 120) v6 v7 tb5 v9 sp5 v11 v12 v13 v14 v15 v16 v17 v18 v19))) σ) = true := by rw [segF_eq (t := tb5) (s := sp5) rfl rfl eG5]; kernel_rfl
theorem eF5_0_2 (v0 v2 v3 v6 v7 v9 v11 v12 v13 v14 v15 v16 v17 v18 v19 : V) (σ : Sto) : isYes (seqL segF nilS (put 60 (.lst [.int 0, .int (-1), .int 1, .int (-1), .int 1, .int 1, .int 5]) (put 15 (.lst [.int 1, .int 1, .int 1, .int 1, .int 1, .int 1, .int 1]) (rD v0 (.loc 0) v2 v3 (.int 7) (.int 120) v6 v7 tb5 v9 sp5 v11 v12 v13 v14 v15 v16 v17 v18 v19))) σ) = true := by rw [segF_eq (t := tb5) (s := sp5) rfl rfl eG5]; kernel_rfl
theorem eF5_0_3 (v0 v2 v3 v6 v7 v9 v11 v12 v13 v14 v15 v16 v17 v18 v19 : V) (σ : Sto) : isYes (seqL segF nilS (put 60 (.lst [.int 1, .int 0, .int 0, .int 0, .int (-2), .int 0, .int 6]) (put 15 (.lst [.int 1, .int 1, .int 1, .int 1, .int 1, .int 1, .int 1]) (rD v0 (.loc 0) v2 v3 (.int 7) (.int 120) v6 v7 tb5 v9 sp5 v11 v12 v13 v14 v15 v16 v17 v18 v19))) σ) = true := by rw [segF_eq (t := tb5) (s := sp5) rfl rfl eG5]; kernel_rfl
theorem eF5_0_4 (v0 v2 v3 v6 v7 v9 v11 v12 v13 v14 v15 v16 v17 v18 v19 : V) (σ : Sto) : isYes (seqL segF nilS (put 60 (.lst [.int 0, .int 1, .int (-1), .int (-1), .int 1, .int (-1), .int 5]) (put 15 (.lst [.int 1, .int 1, .int 1, .int 1, .int 1, .int 1, .int 1]) (rD v0 (.loc 0) v2 v3 (.int 7) (.int 120) v6 v7 tb5 v9 sp5 v11 v12 v13 v14 v15 v16 v17 v18 v19))) σ) = true := by rw [segF_eq (t := tb5) (s := sp5) rfl rfl eG5]; kernel_rfl
theorem eF5_0_5 (v0 v2 v3 v6 v7 v9 v11 v12 v13 v14 v15 v16 v17 v18 v19 : V) (σ : Sto) : isYes (seqL segF nilS (put 60 (.lst [.int (-1), .int 0, .int 1, .int 1, .int 0, .int (-2), .int 4]) (put 15 (.lst [.int 1, .int 1, .int 1, .int 1, .int 1, .int 1, .int 1]) (rD v0 (.loc 0) v2 v3 (.int 7) (.int 120) v6 v7 tb5 v9 sp5 v11 v12 v13 v14 v15 v16 v17 v18 v19))) σ) = true := by rw [segF_eq (t := tb5) (s := sp5) rfl rfl eG5]; kernel_rfl
theorem eF5_0_6 (v0 v2 v3 v6 v7 v9 v11 v12 v13 v14 v15 v16 v17 v18 v19 : V) (σ : Sto) : isYes (seqL segF nilS (put 60 (.lst [.int 1, .int (-1), .int (-1), .int 1, .int 1, .int (-1), .int 1]) (put 15 (.lst [.int 1, .int 1, .int 1, .int 1, .int 1, .int 1, .int 1]) (rD v0 (.loc 0) v2 v3 (.int 7) (.int 120) v6 v7 tb5 v9 sp5 v11 v12 v13 v14 v15 v16 v17 v18 v19))) σ) = true := by rw [segF_eq (t := tb5) (s := sp5) rfl rfl eG5]; kernel_rfl
theorem eF5_1_0 (v0 v2 v3 v6 v7 v9 v11 v12 v13 v14 v15 v16 v17 v18 v19 : V) (σ : Sto) : isYes (seqL segF nilS (put 60 (.lst [.int 1, .int 1, .int 1, .int 1, .int 1, .int 1, .int 1]) (put 15 (.lst [.int (-1), .int 0, .int (-1), .int 1, .int 0, .int 2, .int 4]) (rD v0 (.loc 0) v2 v3 (.int 7) (.int 120) v6 v7 tb5 v9 sp5 v11 v12 v13 v14 v15 v16 v17 v18 v19))) σ) = true := by rw [segF_eq (t := tb5) (s := sp5) rfl rfl eG5]; kernel_rfl
theorem eF5_1_1 (v0 v2 v3 v6 v7 v9 v11 v12 v13 v14 v15 v16 v17 v18 v19 : V) (σ : Sto) : isYes (seqL segF nilS (put 60 (.lst [.int (-1), .int 0, .int (-1), .int 1, .int 0, .int 2, .int 4]) (put 15 (.lst [.int (-1), .int 0, .int (-1), .int 1, .int 0, .int 2, .int 4]) (rD v0 (.loc 0) v2 v3 (.int 7) (.int 120) v6 v7 tb5 v9 sp5 v11 v12 v13 v14 v15 v16 v17 v18 v19))) σ) = true := by rw [segF_eq (t := tb5) (s := sp5) rfl rfl eG5]; kernel_rfl
theorem eF5_1_2 (v0 v2 v3 v6 v7 v9 v11 v12 v13 v14 v15 v16 v17 v18 v19 : V) (σ : Sto) : isYes (seqL segF nilS (put 60 (.lst [.int 0, .int (-1), .int 1, .int (-1), .int 1, .int 1, .int 5]) (put 15 (.lst [.int (-1), .int 0, .int (-1), .int 1, .int 0, .int 2, .int 4]) (rD v0 (.loc 0) v2 v3 (.int 7) (.int 120) v6 v7 tb5 v9 sp5 v11 v12 v13 v14 v15 v16 v17 v18 v19))) σ) = true := by rw [segF_eq (t := tb5) (s := sp5) rfl rfl eG5]; kernel_rfl
theorem eF5_1_3 (v0 v2 v3 v6 v7 v9 v11 v12 v13 v14 v15 v16 v17 v18 v19 : V) (σ : Sto) : isYes (seqL segF nilS (put 60 (.lst [.int 1, .int 0, .int 0, .int 0, .int (-2), .int 0, .int 6]) (put 15 (.lst [.int (-1), .int 0, .int (-1), .int 1, .int 0, .int 2, .int 4]) (rD v0 (.loc 0) v2 v3 (.int 7) (.int 120) v6 v7 tb5 v9 sp5 v11 v12 v13 v14 v15 v16 v17 v18 v19))) σ) = true := by rw [segF_eq (t := tb5) (s := sp5) rfl rfl eG5]; kernel_rfl
theorem eF5_1_4 (v0 v2 v3 v6 v7 v9 v11 v12 v13 v14 v15 v16 v17 v18 v19 : V) (σ : Sto) : isYes (seqL segF nilS (put 60 (.lst [.int 0, .int 1, .int (-1), .int (-1), .int 1, .int (-1), .int 5]) (put 15 (.lst [.int (-1), .int 0, .int (-1), .int 1, .int 0, .int 2, .int 4]) (rD v0 (.loc 0) v2 v3 (.int 7) (.int 120) v6 v7 tb5 v9 sp5 v11 v12 v13 v14 v15 v16 v17 v18 v19))) σ) = true := by rw [segF_eq (t := tb5) (s := sp5) rfl rfl eG5]; kernel_rfl
theorem eF5_1_5 (v0 v2 v3 v6 v7 v9 v11 v12 v13 v14 v15 v16 v17 v18 v19 : V) (σ : Sto) : isYes (seqL segF nilS (put 60 (.lst [.int (-1), .int 0, .int 1, .int 1, .int 0, .int (-2), .int 4]) (put 15 (.lst [.int (-1), .int 0, .int (-1), .int 1, .int 0, .int 2, .int 4]) (rD v0 (.loc 0) v2 v3 (.int 7) (.int 120) v6 v7 tb5 v9 sp5 v11 v12 v13 v14 v15 v16 v17 v18 v19))) σ) = true := by rw [segF_eq (t := tb5) (s := sp5) rfl rfl eG5]; kernel_rfl
theorem eF5_1_6 (v0 v2 v3 v6 v7 v9 v11 v12 v13 v14 v15 v16 v17 v18 v19 : V) (σ : Sto) : isYes (seqL segF nilS (put 60 (.lst [.int 1, .int (-1), .int (-1), .int 1, .int 1, .int (-1), .int 1]) (put 15 (.lst [.int (-1), .int 0, .int (-1), .int 1, .int 0, .int 2, .int 4]) (rD v0 (.loc 0) v2 v3 (.int 7) (.int 120) v6 v7 tb5 v9 sp5 v11 v12 v13 v14 v15 v16 v17 v18 v19))) σ) = true := by rw [segF_eq (t := tb5) (s := sp5) rfl rfl eG5]; kernel_rfl
theorem eF5_2_0 (v0 v2 v3 v6 v7 v9 v11 v12 v13 v14 v15 v16 v17 v18 v19 : V) (σ : Sto) : isYes (seqL segF nilS (put 60 (.lst [.int 1, .int 1, .int 1, .int 1, .int 1, .int 1, .int 1]) (put 15 (.lst [.int 0, .int (-1), .int 1, .int (-1), .int 1, .int 1, .int 5]) (rD v0 (.loc 0) v2 v3 (.int 7) (.int 120) v6 v7 tb5 v9 sp5 v11 v12 v13 v14 v15 v16 v17 v18 v19))) σ) = true := by rw [segF_eq (t := tb5) (s := sp5) rfl rfl eG5]; kernel_rfl
theorem eF5_2_1 (v0 v2 v3 v6 v7 v9 v11 v12 v13 v14 v15 v16 v17 v18 v19 : V) (σ : Sto) : isYes (seqL segF nilS (put 60 (.lst [.int (-1), .int 0, .int (-1), .int 1, .int 0, .int 2, .int 4]) (put 15 (.lst [.int 0, .int (-1), .int 1, .int (-1), .int 1, .int 1, .int 5]) (rD v0 (.loc 0) v2 v3 (.int 7) (.int 120) v6 v7 tb5 v9 sp5 v11 v12 v13 v14 v15 v16 v17 v18 v19))) σ) = true := by rw [segF_eq (t := tb5) (s := sp5) rfl rfl eG5]; kernel_rfl
theorem eF5_2_2 (v0 v2 v3 v6 v7 v9 v11 v12 v13 v14 v15 v16 v17 v18 v19 : V) (σ : Sto) : isYes (seqL segF nilS (put 60 (.lst [.int 0, .int (-1), .int 1, .int (-1), .int 1, .int 1, .int 5]) (put 15 (.lst [.int 0, .int (-1), .int 1, .int (-1), .int 1, .int 1, .int 5]) (rD v0 (.loc 0) v2 v3 (.int 7) (.int 120) v6 v7 tb5 v9 sp5 v11 v12 v13 v14 v15 v16 v17 v18 v19))) σ) = true := by rw [segF_eq (t := tb5) (s := sp5) rfl rfl eG5]; kernel_rfl
theorem eF5_2_3 (v0 v2 v3 v6 v7 v9 v11 v12 v13 v14 v15 v16 v17 v18 v19 : V) (σ : Sto) : isYes (seqL segF nilS (put 60 (.lst [.int 1, .int 0, .int 0, .int 0, .int (-2), .int 0, .int 6]) (put 15 (.lst [.int 0, .int (-1), .int 1, .int (-1), .int 1, .int 1, .int 5]) (rD v0 (.loc 0) v2 v3 (.int 7) (.int 120) v6 v7 tb5 v9 sp5 v11 v12 v13 v14 v15 v16 v17 v18 v19))) σ) = true := by rw [segF_eq (t := tb5) (s := sp5) rfl rfl eG5]; kernel_rfl
theorem eF5_2_4 (v0 v2 v3 v6 v7 v9 v11 v12 v13 v14 v15 v16 v17 v18 v19 : V) (σ : Sto) : isYes (seqL segF nilS (put 60 (.lst [.int 0, .int 1, .int (-1), .int (-1), .int 1, .int (-1), .int 5]) (put 15 (.lst [.int 0, .int (-1), .int 1, .int (-1), .int 1, .int 1, .int 5]) (rD v0 (.loc 0) v2 v3 (.int 7) (.int 120) v6 v7 tb5 v9 sp5 v11 v12 v13 v14 v15 v16 v17 v18 v19))) σ) = true := by rw [segF_eq (t := tb5) (s := sp5) rfl rfl eG5]; kernel_rfl
theorem eF5_2_5 (v0 v2 v3 v6 v7 v9 v11 v12 v13 v14 v15 v16 v17 v18 v19 : V) (σ : Sto) : isYes (seqL segF nilS (put 60 (.lst [.int (-1), .int 0, .int 1, .int 1, .int 0, .int (-2), .int 4]) (put 15 (.lst [.int 0, .int (-1), .int 1, .int (-1), .int 1, .int 1, .int 5]) (rD v0 (.loc 0) v2 v3 (.int 7) (.int 120) v6 v7 tb5 v9 sp5 v11 v12 v13 v14 v15 v16 v17 v18 v19))) σ) = true := by rw [segF_eq (t := tb5) (s := sp5) rfl rfl eG5]; kernel_rfl
theorem eF5_2_6 (v0 v2 v3 v6 v7 v9 v11 v12 v13 v14 v15 v16 v17 v18 v19 : V) (σ : Sto) : isYes (seqL segF nilS (put 60 (.lst [.int 1, .int (-1), .int (-1), .int 1, .int 1, .int (-1), .int 1]) (put 15 (.lst [.int 0, .int (-1), .int 1, .int (-1), .int 1, .int 1, .int 5]) (rD v0 (.loc 0) v2 v3 (.int 7) (.int 120) v6 v7 tb5 v9 sp5 v11 v12 v13 v14 v15 v16 v17 v18 v19))) σ) = true := by rw [segF_eq (t := tb5) (s := sp5) rfl rfl eG5]; kernel_rfl
theorem eF5_3_0 (v0 v2 v3 v6 v7 v9 v11 v12 v13 v14 v15 v16 v17 v18 v19 : V) (σ : Sto) : isYes (seqL segF nilS (put 60 (.lst [.int 1, .int 1, .int 1, .int 1, .int 1, .int 1, .int 1]) (put 15 (.lst [.int 1, .int 0, .int 0, .int 0, .int (-2), .int 0, .int 6]) (rD v0 (.loc 0) v2 v3 (.int 7) (.int 120) v6 v7 tb5 v9 sp5 v11 v12 v13 v14 v15 v16 v17 v18 v19))) σ) = true := by rw [segF_eq (t := tb5) (s := sp5) rfl rfl eG5]; kernel_rfl
theorem eF5_3_1 (v0 v2 v3 v6 v7 v9 v11 v12 v13 v14 v15 v16 v17 v18 v19 : V) (σ : Sto) : isYes (seqL segF nilS (put 60 (.lst [.int (-1), .int 0, .int (-1), .int 1, .int 0, .int 2, .int 4]) (put 15 (.lst [.int 1, .int 0, .int 0, .int 0, .int (-2), .int 0, .int 6]) (rD v0 (.loc 0) v2 v3 (.int 7) (.int 120) v6 v7 tb5 v9 sp5 v11 v12 v13 v14 v15 v16 v17 v18 v19))) σ) = true := by rw [segF_eq (t := tb5) (s := sp5) rfl rfl eG5]; kernel_rfl
theorem eF5_3_2 (v0 v2 v3 v6 v7 v9 v11 v12 v13 v14 v15 v16 v17 v18 v19 : V) (σ : Sto) : isYes (seqL segF nilS (put 60 (.lst [.int 0, .int (-1), .int 1, .int (-1), .int 1, .int 1, .int 5]) (put 15 (.lst [.int 1, .int 0, .int 0, .int 0, .int (-2), .int 0, .int 6]) (rD v0 (.loc 0) v2 v3 (.int 7) (.int 120) v6 v7 tb5 v9 sp5 v11 v12 v13 v14 v15 v16 v17 v18 v19))) σ) = true := by rw [segF_eq (t := tb5) (s := sp5) rfl rfl eG5]; kernel_rfl
theorem eF5_3_3 (v0 v2 v3 v6 v7 v9 v11 v12 v13 v14 v15 v16 v17 v18 v19 : V) (σ : Sto) : isYes (seqL segF nilS (put 60 (.lst [.int 1, .int 0, .int 0, .int 0, .int (-2), .int 0, .int 6]) (put 15 (.lst [.int 1, .int 0, .int 0, .int 0, .int (-2), .int 0, .int 6]) (rD v0 (.loc 0) v2 v3 (.int 7) (.int 120) v6 v7 tb5 v9 sp5 v11 v12 v13 v14 v15 v16 v17 v18 v19))) σ) = true := by rw [segF_eq (t := tb5) (s := sp5) rfl rfl eG5]; kernel_rfl
theorem eF5_3_4 (v0 v2 v3 v6 v7 v9 v11 v12 v13 v14 v15 v16 v17 v18 v19 : V) (σ : Sto) : isYes (seqL segF nilS (put 60 (.lst [.int 0, .int 1, .int (-1), .int (-1), .int 1, .int (-1), .int 5]) (put 15 (.lst [.int 1, .int 0, .int 0, .int 0, .int (-2), .int 0, .int 6]) (rD v0 (.loc 0) v2 v3 (.int 7) (.int 120) v6 v7 tb5 v9 sp5 v11 v12 v13 v14 v15 v16 v17 v18 v19))) σ) = true := by rw [segF_eq (t := tb5) (s := sp5) rfl rfl eG5]; kernel_rfl
theorem eF5_3_5 (v0 v2 v3 v6 v7 v9 v11 v12 v13 v14 v15 v16 v17 v18 v19 : V) (σ : Sto) : isYes (seqL segF nilS (put 60 (.lst [.int (-1), .int 0, .int 1, .int 1, .int 0, .int (-2), .int 4]) (put 15 (.lst [.int 1, .int 0, .int 0, .int 0, .int (-2), .int 0, .int 6]) (rD v0 (.loc 0) v2 v3 (.int 7) (.int 120) v6 v7 tb5 v9 sp5 v11 v12 v13 v14 v15 v16 v17 v18 v19))) σ) = true := by rw [segF_eq (t := tb5) (s := sp5) rfl rfl eG5]; kernel_rfl
theorem eF5_3_6 (v0 v2 v3 v6 v7 v9 v11 v12 v13 v14 v15 v16 v17 v18 v19 : V) (σ : Sto) : isYes (seqL segF nilS (put 60 (.lst [.int 1, .int (-1), .int (-1), .int 1, .int 1, .int (-1), .int 1]) (put 15 (.lst [.int 1, .int 0, .int 0, .int 0, .int (-2), .int 0, .int 6]) (rD v0 (.loc 0) v2 v3 (.int 7) (.int 120) v6 v7 tb5 v9 sp5 v11 v12 v13 v14 v15 v16 v17 v18 v19))) σ) = true := by rw [segF_eq (t := tb5) (s := sp5) rfl rfl eG5]; kernel_rfl
theorem eF5_4_0 (v0 v2 v3 v6 v7 v9 v11 v12 v13 v14 v15 v16 v17 v18 v19 : V) (σ : Sto) : isYes (seqL segF nilS (put 60 (.lst [.int 1, .int 1, .int 1, .int 1, .int 1, .int 1, .int 1]) (put 15 (.lst [.int 0, .int 1, .int (-1), .int (-1), .int 1, .int (-1), .int 5]) (rD v0 (.loc 0) v2 v3 (.int 7) (.int 120) v6 v7 tb5 v9 sp5 v11 v12 v13 v14 v15 v16 v17 v18 v19))) σ) = true := by rw [segF_eq (t := tb5) (s := sp5) rfl rfl eG5]; kernel_rfl
theorem eF5_4_1 (v0 v2 v3 v6 v7 v9 v11 v12 v13 v14 v15 v16 v17 v18 v19 : V) (σ : Sto) : isYes (seqL segF nilS (put 60 (.lst [.int (-1), .int 0, .int (-1), .int 1, .int 0, .int 2, .int 4]) (put 15 (.lst [.int 0, .int 1, .int (-1), .int (-1), .int 1, .int (-1), .int 5]) (rD v0 (.loc 0) v2 v3 (.int 7) (.int 120) v6 v7 tb5 v9 sp5 v11 v12 v13 v14 v15 v16 v17 v18 v19))) σ) = true := by rw [segF_eq (t := tb5) (s := sp5) rfl rfl eG5]; kernel_rfl
theorem eF5_4_2 (v0 v2 v3 v6 v7 v9 v11 v12 v13 v14 v15 v16 v17 v18 v19 : V) (σ : Sto) : isYes (seqL segF nilS (put 60 (.lst [.int 0, .int (-1), .int 1, .int (-1), .int 1, .int 1, .int 5]) (put 15 (.lst [.int 0, .int 1, .int (-1), .int (-1), .int 1, .int (-1), .int 5]) (rD v0 (.loc 0) v2 v3 (.int 7) (.int 120) v6 v7 tb5 v9 sp5 v11 v12 v13 v14 v15 v16 v17 v18 v19))) σ) = true := by rw [segF_eq (t := tb5) (s := sp5) rfl rfl eG5]; kernel_rfl
theorem eF5_4_3 (v0 v2 v3 v6 v7 v9 v11 v12 v13 v14 v15 v16 v17 v18 v19 : V) (σ : Sto) : isYes (seqL segF nilS (put 60 (.lst [.int 1, .int 0, .int 0, .int 0, .int (-2), .int 0, .int 6]) (put 15 (.lst [.int 0, .int 1, .int (-1), .int (-1), .int 1, .int (-1), .int 5]) (rD v0 (.loc 0) v2 v3 (.int 7) (.int 120) v6 v7 tb5 v9 sp5 v11 v12 v13 v14 v15 v16 v17 v18 v19))) σ) = true := by rw [segF_eq (t := tb5) (s := sp5) rfl rfl eG5]; kernel_rfl
theorem eF5_4_4 (v0 v2 v3 v6 v7 v9 v11 v12 v13 v14 v15 v16 v17 v18 v19 : V) (σ : Sto) : isYes (seqL segF nilS (put 60 (.lst [.int 0, .int 1, .int (-1), .int (-1), .int 1, .int (-1), .int 5]) (put 15 (.lst [.int 0, .int 1, .int (-1), .int (-1), .int 1, .int (-1), .int 5]) (rD v0 (.loc 0) v2 v3 (.int 7) (.int 120) v6 v7 tb5 v9 sp5 v11 v12 v13 v14 v15 v16 v17 v18 v19))) σ) = true := by rw [segF_eq (t := tb5) (s := sp5) rfl rfl eG5]; kernel_rfl
theorem eF5_4_5 (v0 v2 v3 v6 v7 v9 v11 v12 v13 v14 v15 v16 v17 v18 v19 : V) (σ : Sto) : isYes (seqL segF nilS (put 60 (.lst [.int (-1), .int 0, .int 1, .int 1, .int 0, .int (-2), .int 4]) (put 15 (.lst [.int 0, .int 1, .int (-1), .int (-1), .int 1, .int (-1), .int 5]) (rD v0 (.loc 0) v2 v3 (.int 7) (.int 120) v6 v7 tb5 v9 sp5 v11 v12 v13 v14 v15 v16 v17 v18 v19))) σ) = true := by rw [segF_eq (t := tb5) (s := sp5) rfl rfl eG5]; kernel_rfl
theorem eF5_4_6 (v0 v2 v3 v6 v7 v9 v11 v12 v13 v14 v15 v16 v17 v18 v19 : V) (σ : Sto) : isYes (seqL segF nilS (put 60 (.lst [.int 1, .int (-1), .int (-1), .int 1, .int 1, .int (-1), .int 1]) (put 15 (.lst [.int 0, .int 1, .int (-1), .int (-1), .int 1, .int (-1), .int 5]) (rD v0 (.loc 0) v2 v3 (.int 7) (.int 120) v6 v7 tb5 v9 sp5 v11 v12 v13 v14 v15 v16 v17 v18 v19))) σ) = true := by rw [segF_eq (t := tb5) (s := sp5) rfl rfl eG5]; kernel_rfl
theorem eF5_5_0 (v0 v2 v3 v6 v7 v9 v11 v12 v13 v14 v15 v16 v17 v18 v19 : V) (σ : Sto) : isYes (seqL segF nilS (put 60 (.lst [.int 1, .int 1, .int 1, .int 1, .int 1, .int 1, .int 1]) (put 15 (.lst [.int (-1), .int 0, .int 1, .int 1, .int 0, .int (-2), .int 4]) (rD v0 (.loc 0) v2 v3 (.int 7) (.int 120) v6 v7 tb5 v9 sp5 v11 v12 v13 v14 v15 v16 v17 v18 v19))) σ) = true := by rw [segF_eq (t := tb5) (s := sp5) rfl rfl eG5]; kernel_rfl
theorem eF5_5_1 (v0 v2 v3 v6 v7 v9 v11 v12 v13 v14 v15 v16 v17 v18 v19 : V) (σ : Sto) : isYes (seqL segF nilS (put 60 (.lst [.int (-1), .int 0, .int (-1), .int 1, .int 0, .int 2, .int 4]) (put 15 (.lst [.int (-1), .int 0, .int 1, .int 1, .int 0, .int (-2), .int 4]) (rD v0 (.loc 0) v2 v3 (.int 7) (.int 120) v6 v7 tb5 v9 sp5 v11 v12 v13 v14 v15 v16 v17 v18 v19))) σ) = true := by rw [segF_eq (t := tb5) (s := sp5) rfl rfl eG5]; kernel_rfl
theorem eF5_5_2 (v0 v2 v3 v6 v7 v9 v11 v12 v13 v14 v15 v16 v17 v18 v19 : V) (σ : Sto) : isYes (seqL segF nilS (put 60 (.lst [.int 0, .int (-1), .int 1, .int (-1), .int 1, .int 1, .int 5]) (put 15 (.lst [.int (-1), .int 0, .int 1, .int 1, .int 0, .int (-2), .int 4]) (rD v0 (.loc 0) v2 v3 (.int 7) (.int 120) v6 v7 tb5 v9 sp5 v11 v12 v13 v14 v15 v16 v17 v18 v19))) σ) = true := by rw [segF_eq (t := tb5) (s := sp5) rfl rfl eG5]; kernel_rfl
theorem eF5_5_3 (v0 v2 v3 v6 v7 v9 v11 v12 v13 v14 v15 v16 v17 v18 v19 : V) (σ : Sto) : isYes (seqL segF nilS (put 60 (.lst [.int 1, .int 0, .int 0, .int 0, .int (-2), .int 0, .int 6]) (put 15 (.lst [.int (-1), .int 0, .int 1, .int 1, .int 0, .int (-2), .int 4]) (rD v0 (.loc 0) v2 v3 (.int 7) (.int 120) v6 v7 tb5 v9 sp5 v11 v12 v13 v14 v15 v16 v17 v18 v19))) σ) = true := by rw [segF_eq (t := tb5) (s := sp5) rfl rfl eG5]; kernel_rfl
theorem eF5_5_4 (v0 v2 v3 v6 v7 v9 v11 v12 v13 v14 v15 v16 v17 v18 v19 : V) (σ : Sto) : isYes (seqL segF nilS (put 60 (.lst [.int 0, .int 1, .int (-1), .int (-1), .int 1, .int (-1), .int 5]) (put 15 (.lst [.int (-1), .int 0, .int 1, .int 1, .int 0, .int (-2), .int 4]) (rD v0 (.loc 0) v2 v3 (.int 7) (.int 120) v6 v7 tb5 v9 sp5 v11 v12 v13 v14 v15 v16 v17 v18 v19))) σ) = true := by rw [segF_eq (t := tb5) (s := sp5) rfl rfl eG5]; kernel_rfl
theorem eF5_5_5 (v0 v2 v3 v6 v7 v9 v11 v12 v13 v14 v15 v16 v17 v18 v19 : V) (σ : Sto) : isYes (seqL segF nilS (put 60 (.lst [.int (-1), .int 0, .int 1, .int 1, .int 0, .int (-2), .int 4]) (put 15 (.lst [.int (-1), .int 0, .int 1, .int 1, .int 0, .int (-2), .int 4]) (rD v0 (.loc 0) v2 v3 (.int 7) (.int 120) v6 v7 tb5 v9 sp5 v11 v12 v13 v14 v15 v16 v17 v18 v19))) σ) = true := by rw [segF_eq (t := tb5) (s := sp5) rfl rfl eG5]; kernel_rfl
theorem eF5_5_6 (v0 v2 v3 v6 v7 v9 v11 v12 v13 v14 v15 v16 v17 v18 v19 : V) (σ : Sto) : isYes (seqL segF nilS (put 60 (.lst [.int 1, .int (-1), .int (-1), .int 1, .int 1, .int (-1), .int 1]) (put 15 (.lst [.int (-1), .int 0, .int 1, .int 1, .int 0, .int (-2), .int 4]) (rD v0 (.loc 0) v2 v3 (.int 7) (.int 120) v6 v7 tb5 v9 sp5 v11 v12 v13 v14 v15 v16 v17 v18 v19))) σ) = true := by rw [segF_eq (t := tb5) (s := sp5) rfl rfl eG5]; kernel_rfl
theorem eF5_6_0 (v0 v2 v3 v6 v7 v9 v11 v12 v13 v14 v15 v16 v17 v18 v19 : V) (σ : Sto) : isYes (seqL segF nilS (put 60 (.lst [.int 1, .int 1, .int 1, .int 1, .int 1, .int 1, .int 1]) (put 15 (.lst [.int 1, .int (-1), .int (-1), .int 1, .int 1, .int (-1), .int 1]) (rD v0 (.loc 0) v2 v3 (.int 7) (.int 120) v6 v7 tb5 v9 sp5 v11 v12 v13 v14 v15 v16 v17 v18 v19))) σ) = true := by rw [segF_eq (t := tb5) (s := sp5) rfl rfl eG5]; kernel_rfl
theorem eF5_6_1 (v0 v2 v3 v6 v7 v9 v11 v12 v13 v14 v15 v16 v17 v18 v19 : V) (σ : Sto) : isYes (seqL segF nilS (put 60 (.lst [.int (-1), .int 0, .int (-1), .int 1, .int 0, .int 2, .int 4]) (put 15 (.lst [.int 1, .int (-1), .int (-1), .int 1, .int 1, .int (-1), .int 1]) (rD v0 (.loc 0) v2 v3 (.int 7) (.int 120) v6 v7 tb5 v9 sp5 v11 v12 v13 v14 v15 v16 v17 v18 v19))) σ) = true := by rw [segF_eq (t := tb5) (s := sp5) rfl rfl eG5]; kernel_rfl
theorem eF5_6_2 (v0 v2 v3 v6 v7 v9 v11 v12 v13 v14 v15 v16 v17 v18 v19 : V) (σ : Sto) : isYes (seqL segF nilS (put 60 (.lst [.int 0, .int (-1), .int 1, .int (-1), .int 1, .int 1, .int 5]) (put 15 (.lst [.int 1, .int (-1), .int (-1), .int 1, .int 1, .int (-1), .int 1]) (rD v0 (.loc 0) v2 v3 (.int 7) (.int 120) v6 v7 tb5 v9 sp5 v11 v12 v13 v14 v15 v16 v17 v18 v19))) σ) = true := by rw [segF_eq (t := tb5) (s := sp5) rfl rfl eG5]; kernel_rfl
theorem eF5_6_3 (v0 v2 v3 v6 v7 v9 v11 v12 v13 v14 v15 v16 v17 v18 v19 : V) (σ : Sto) : isYes (seqL segF nilS (put 60 (.lst [.int 1, .int 0, .int 0, .int 0, .int (-2), .int 0, .int 6]) (put 15 (.lst [.int 1, .int (-1), .int (-1), .int 1, .int 1, .int (-1), .int 1]) (rD v0 (.loc 0) v2 v3 (.int 7) (.int 120) v6 v7 tb5 v9 sp5 v11 v12 v13 v14 v15 v16 v17 v18 v19))) σ) = true := by rw [segF_eq (t := tb5) (s := sp5) rfl rfl eG5]; kernel_rfl
theorem eF5_6_4 (v0 v2 v3 v6 v7 v9 v11 v12 v13 v14 v15 v16 v17 v18 v19 : V) (σ : Sto) : isYes (seqL segF nilS (put 60 (.lst [.int 0, .int 1, .int (-1), .int (-1), .int 1, .int (-1), .int 5]) (put 15 (.lst [.int 1, .int (-1), .int (-1), .int 1, .int 1, .int (-1), .int 1]) (rD v0 (.loc 0) v2 v3 (.int 7) (.int 120) v6 v7 tb5 v9 sp5 v11 v12 v13 v14 v15 v16 v17 v18 v19))) σ) = true := by rw [segF_eq (t := tb5) (s := sp5) rfl rfl eG5]; kernel_rfl
theorem eF5_6_5 (v0 v2 v3 v6 v7 v9 v11 v12 v13 v14 v15 v16 v17 v18 v19 : V) (σ : Sto) : isYes (seqL segF nilS (put 60 (.lst [.int (-1), .int 0, .int 1, .int 1, .int 0, .int (-2), .int 4]) (put 15 (.lst [.int 1, .int (-1), .int (-1), .int 1, .int 1, .int (-1), .int 1]) (rD v0 (.loc 0) v2 v3 (.int 7) (.int 120) v6 v7 tb5 v9 sp5 v11 v12 v13 v14 v15 v16 v17 v18 v19))) σ) = true := by rw [segF_eq (t := tb5) (s := sp5) rfl rfl eG5]; kernel_rfl
theorem eF5_6_6 (v0 v2 v3 v6 v7 v9 v11 v12 v13 v14 v15 v16 v17 v18 v19 : V) (σ : Sto) : isYes (seqL segF nilS (put 60 (.lst [.int 1, .int (-1), .int (-1), .int 1, .int 1, .int (-1), .int 1]) (put 15 (.lst [.int 1, .int (-1), .int (-1), .int 1, .int 1, .int (-1), .int 1]) (rD v0 (.loc 0) v2 v3 (.int 7) (.int 120) v6 v7 tb5 v9 sp5 v11 v12 v13 v14 v15 v16 v17 v18 v19))) σ) = true := by rw [segF_eq (t := tb5) (s := sp5) rfl rfl eG5]; kernel_rfl
end Mine
end

section
set_option autoImplicit false
set_option Elab.async false
set_option maxRecDepth 1000000
namespace Mine

-- the pool and its draws -----------------------------------------------------------------------------------------------------
noncomputable def poolS (l : List Int) (k : Int) : Option SO := some (.list [.lst (intVs l), .int k])
noncomputable def drw (l : List Int) (k : Nat) (m : Int) : Int := match l[k]? with
  | some a => ((a.natAbs : Nat) : Int).fmod m
  | none => (([1, 3, 2, 2] : List Int).getD k 0).fmod m
theorem draw_at (l : List Int) (hl : l.length ≤ 4) (σ : Sto) : ∀ (k : Nat), k < 4 → ∀ m ∈ ([3, 5, 7] : List Int), c_law_draw [.loc 0, .int m] (poolS l k :: σ) = some (.int (drw l k m), poolS l ((k : Int) + 1) :: σ) := by
  have cases4 : ∀ k : Nat, k < 4 → k = 0 ∨ k = 1 ∨ k = 2 ∨ k = 3 := by omega
  intro k hk m hm
  simp only [List.mem_cons, List.mem_nil_iff, or_false] at hm
  rcases l with _ | ⟨a, _ | ⟨b, _ | ⟨c, _ | ⟨d, _ | ⟨e, r⟩⟩⟩⟩⟩
  · rcases cases4 k hk with rfl | rfl | rfl | rfl <;> rcases hm with rfl | rfl | rfl <;> kernel_rfl
  · rcases cases4 k hk with rfl | rfl | rfl | rfl <;> rcases hm with rfl | rfl | rfl <;> kernel_rfl
  · rcases cases4 k hk with rfl | rfl | rfl | rfl <;> rcases hm with rfl | rfl | rfl <;> kernel_rfl
  · rcases cases4 k hk with rfl | rfl | rfl | rfl <;> rcases hm with rfl | rfl | rfl <;> kernel_rfl
  · rcases cases4 k hk with rfl | rfl | rfl | rfl <;> rcases hm with rfl | rfl | rfl <;> kernel_rfl
  · simp at hl
theorem drw_range (l : List Int) (k : Nat) (m : Int) (hm : 0 < m) : 0 ≤ drw l k m ∧ drw l k m < m := by
  unfold drw
  split <;> exact ⟨Int.fmod_nonneg_of_pos _ hm, Int.fmod_lt_of_pos _ hm⟩

theorem intVs_len : ∀ xs : List Int, (intVs xs).length = xs.length
  | [] => rfl
  | _ :: r => by simp [intVs, intVs_len r]
theorem intVs_take : ∀ (xs : List Int) (n : Nat), (intVs xs).take n = intVs (xs.take n)
  | [], n => by simp [intVs]
  | x :: r, 0 => by simp [intVs]
  | x :: r, n + 1 => by simp [intVs, intVs_take r n]

theorem opND_eq {f : List V → Sto → Option V} {ds : DL} {ρ : Rho} {σ σ₁ : Sto} {us : List V} {c : V} (h : ds ρ σ = some (us, σ₁)) (h2 : f us σ₁ = some c) : opND f ds ρ σ = some (c, σ₁) := by
  unfold opND
  rw [h]
  dsimp only
  rw [h2]
theorem consL_eq {d : DE} {ds : DL} {ρ : Rho} {σ σ₁ σ₂ : Sto} {a : V} {as : List V} (h : d ρ σ = some (a, σ₁)) (h2 : ds ρ σ₁ = some (as, σ₂)) : consL d ds ρ σ = some (a :: as, σ₂) := by
  unfold consL
  rw [h]
  dsimp only
  rw [h2]
theorem comp0 (sv : V) (l : List Int) (hl : l.length ≤ 4) : (match loopL (turnL (delR [62] [(45, sv)]) (.one 62) (emitL yesT (opND intV (consL (nameD 62) nilL)))) (intVs l) [] with
    | none => none
    | some (vs, σ₂) => match Nat.ble vs.length 100000 with
      | true => some (vs, σ₂)
      | false => none) = some (intVs l, ([] : Sto)) := by
  rcases l with _ | ⟨a, _ | ⟨b, _ | ⟨c, _ | ⟨d, _ | ⟨e, r⟩⟩⟩⟩⟩
  · kernel_rfl
  · kernel_rfl
  · kernel_rfl
  · kernel_rfl
  · kernel_rfl
  · simp at hl
theorem lst0 (l : List Int) (hl : l.length ≤ 4) : lstV (intVs l) [] = some (.lst (intVs l)) := by
  rcases l with _ | ⟨a, _ | ⟨b, _ | ⟨c, _ | ⟨d, _ | ⟨e, r⟩⟩⟩⟩⟩
  · kernel_rfl
  · kernel_rfl
  · kernel_rfl
  · kernel_rfl
  · kernel_rfl
  · simp at hl
theorem l0 (xs : List Int) (h : xs.length ≤ 63) : law_0 [(45, .lst (intVs xs))] [] = some (none, [(45, .lst (intVs xs)), (29, .loc 0)], [poolS (xs.take 4) 0]) := by
  have h4 : (xs.take 4).length ≤ 4 := by simp; omega
  have hs : sliceD (nameD 45) (constD .none) (constD (.int 4)) (constD .none) [(45, .lst (intVs xs))] [] = some (.lst (intVs (xs.take 4)), []) := by
    have hb : Nat.ble (intVs xs).length 100000 = true := by rw [intVs_len]; exact Nat.ble_eq_true_of_le (by omega)
    have e : sliceV (.lst (intVs xs)) .none (.int 4) .none [] = some (.lst ((intVs xs).take 4)) := by
      show (match Nat.ble (intVs xs).length 100000 with | true => some (V.lst ((intVs xs).take 4)) | false => none) = _
      rw [hb]
    show (match sliceV (.lst (intVs xs)) .none (.int 4) .none [] with | some r => some (r, ([] : Sto)) | none => none) = _
    rw [e, intVs_take]
  have hc : compL [62] (anyI (sliceD (nameD 45) (constD .none) (constD (.int 4)) (constD .none))) (.one 62) (emitL yesT (opND intV (consL (nameD 62) nilL))) [(45, .lst (intVs xs))] [] = some (intVs (xs.take 4), []) := by
    unfold compL anyI
    rw [hs]
    exact comp0 _ _ h4
  have s1 : opND lstV (compL [62] (anyI (sliceD (nameD 45) (constD .none) (constD (.int 4)) (constD .none))) (.one 62) (emitL yesT (opND intV (consL (nameD 62) nilL)))) [(45, .lst (intVs xs))] [] = some (.lst (intVs (xs.take 4)), []) := by
    exact opND_eq hc (lst0 _ h4)
  have s2 : consL (opND lstV (compL [62] (anyI (sliceD (nameD 45) (constD .none) (constD (.int 4)) (constD .none))) (.one 62) (emitL yesT (opND intV (consL (nameD 62) nilL))))) (consL (constD (.int 0)) nilL) [(45, .lst (intVs xs))] [] = some ([.lst (intVs (xs.take 4)), .int 0], []) := by
    exact consL_eq s1 rfl
  unfold law_0 asgS mutD dispD
  rw [s2]
  rfl
theorem l1 (l : List Int) (hl : l.length ≤ 4) (sv : V) : law_1 [(45, sv), (29, .loc 0)] [poolS l 0] = some (none, rA0 (3 + drw l 0 3) sv, [poolS l 1]) := by
  have hd := draw_at l hl [] 0 (by omega) 3 (by simp)
  unfold law_1 asgS op2D constD callE
  dsimp only
  rw [show (consL (nameD 29) (consL (fun _ σ => some (V.int 3, σ)) nilL) [(45, sv), (29, V.loc 0)] [poolS l 0]) = some ([.loc 0, .int 3], [poolS l 0]) from rfl]
  dsimp only
  rw [show ([poolS l 0] : Sto) = (poolS l ((0 : Nat) : Int) :: []) from rfl, hd]
  rfl
theorem l4 (l : List Int) (hl : l.length ≤ 4) {ρ : Rho} {L : List V} {m : Int} {v : V} (h1 : lk ρ 46 = some (.lst L)) (h2 : lk ρ 23 = some (.int m)) (h3 : lk ρ 29 = some (.loc 0)) (hm : m ∈ ([3, 5, 7] : List Int)) (hi : idx L (drw l 1 m) = some v) :
    law_4 ρ [poolS l 1] = some (none, put 35 v ρ, [poolS l 2]) := by
  have hd := draw_at l hl [] 1 (by omega) m hm
  have e1 : nameD 46 ρ [poolS l 1] = some (.lst L, [poolS l 1]) := by unfold nameD; rw [h1]
  have e2 : consL (nameD 29) (consL (nameD 23) nilL) ρ [poolS l 1] = some ([.loc 0, .int m], [poolS l 1]) := by
    unfold consL nameD
    rw [h3, h2]
    rfl
  unfold law_4 asgS op2D callE
  rw [e1]
  dsimp only
  rw [e2]
  dsimp only
  rw [show ([poolS l 1] : Sto) = (poolS l ((1 : Nat) : Int) :: []) from rfl, hd]
  dsimp only
  rw [show itemV (.lst L) (.int (drw l 1 m)) _ = idx L (drw l 1 m) from rfl, hi]
  rfl
theorem l21 (l : List Int) (hl : l.length ≤ 4) {ρ : Rho} {L : List V} {m : Int} {u v : V} {τ : Sto} (h1 : lk ρ 48 = some (.lst L)) (h2 : lk ρ 23 = some (.int m)) (h3 : lk ρ 29 = some (.loc 0)) (hm : m ∈ ([3, 5, 7] : List Int)) (hu : idx L (drw l 2 m) = some u) (hv : idx L (drw l 3 m) = some v) :
    law_21 ρ (poolS l 2 :: τ) = some (none, put 60 v (put 15 u ρ), poolS l 4 :: τ) := by
  have hd := draw_at l hl τ 2 (by omega) m hm
  have hd' := draw_at l hl τ 3 (by omega) m hm
  have e1 : ∀ σ, nameD 48 ρ σ = some (.lst L, σ) := fun σ => by unfold nameD; rw [h1]
  have e2 : ∀ σ, consL (nameD 29) (consL (nameD 23) nilL) ρ σ = some ([.loc 0, .int m], σ) := fun σ => by
    unfold consL nameD
    rw [h3, h2]
    rfl
  have q1 : op2D itemV (nameD 48) (callE c_law_draw (consL (nameD 29) (consL (nameD 23) nilL))) ρ (poolS l 2 :: τ) = some (u, poolS l 3 :: τ) := by
    unfold op2D callE
    rw [e1]
    dsimp only
    rw [e2]
    dsimp only
    rw [show (poolS l 2 :: τ : Sto) = (poolS l ((2 : Nat) : Int) :: τ) from rfl, hd]
    dsimp only
    rw [show itemV (.lst L) (.int (drw l 2 m)) _ = idx L (drw l 2 m) from rfl, hu]
    rfl
  have q2 : op2D itemV (nameD 48) (callE c_law_draw (consL (nameD 29) (consL (nameD 23) nilL))) ρ (poolS l 3 :: τ) = some (v, poolS l 4 :: τ) := by
    unfold op2D callE
    rw [e1]
    dsimp only
    rw [e2]
    dsimp only
    rw [show (poolS l 3 :: τ : Sto) = (poolS l ((3 : Nat) : Int) :: τ) from rfl, hd']
    dsimp only
    rw [show itemV (.lst L) (.int (drw l 3 m)) _ = idx L (drw l 3 m) from rfl, hv]
    rfl
  unfold law_21 tupS
  rw [consL_eq q1 (consL_eq q2 (show nilL ρ (poolS l 4 :: τ) = some ([], poolS l 4 :: τ) from rfl))]
  rfl
end Mine
end

section
set_option autoImplicit false
set_option Elab.async false
set_option maxRecDepth 1000000
namespace Mine

theorem one {d k : DS} {ρ ρ' : Rho} {σ σ' : Sto} (h : d ρ σ = some (none, ρ', σ')) : seqL [d] k ρ σ = k ρ' σ' := by
  simp only [seqL, seqS, h]
theorem yes {r : Option (Option V × Rho × Sto)} (h : isYes r = true) : ∃ ρ' σ', r = some (some (.bool true), ρ', σ') := by
  unfold isYes at h
  split at h
  · exact ⟨_, _, rfl⟩
  · cases h
theorem projD_inv {r : Option (Option V × Rho × Sto)} {ids : List Nat} {T Sp wh mn pl : V} {P : Option SO} (h : projD r = some (ids, T, Sp, wh, mn, pl, P)) :
    ∃ ρ τ, r = some (none, ρ, P :: τ) ∧ ρ.map Prod.fst = ids ∧ lk ρ 48 = some T ∧ lk ρ 50 = some Sp ∧ lk ρ 56 = some wh ∧ lk ρ 23 = some mn ∧ lk ρ 29 = some pl := by
  unfold projD at h
  split at h
  · rename_i ρ p τ
    split at h
    · rename_i T' h1
      split at h
      · rename_i Sp' h2
        split at h
        · rename_i wh' h3
          split at h
          · rename_i mn' h4
            split at h
            · rename_i pl' h5
              simp only [Option.some.injEq, Prod.mk.injEq] at h
              obtain ⟨rfl, rfl, rfl, rfl, rfl, rfl, rfl⟩ := h
              exact ⟨ρ, τ, rfl, rfl, h1, h2, h3, h4, h5⟩
            · cases h
          · cases h
        · cases h
      · cases h
    · cases h
  · cases h
theorem shapeD (ρ : Rho) (h : ρ.map Prod.fst = [45, 29, 31, 46, 23, 56, 35, 47, 48, 49, 50, 58, 57, 19, 51, 2, 59, 39, 52, 53]) : ∃ v0 v1 v2 v3 v4 v5 v6 v7 v8 v9 v10 v11 v12 v13 v14 v15 v16 v17 v18 v19, ρ = rD v0 v1 v2 v3 v4 v5 v6 v7 v8 v9 v10 v11 v12 v13 v14 v15 v16 v17 v18 v19 := by
  obtain _ | ⟨⟨i0, v0⟩, ρ⟩ := ρ
  · simp at h
  simp only [List.map_cons, List.cons.injEq] at h
  obtain ⟨e0, h⟩ := h
  subst e0
  obtain _ | ⟨⟨i1, v1⟩, ρ⟩ := ρ
  · simp at h
  simp only [List.map_cons, List.cons.injEq] at h
  obtain ⟨e1, h⟩ := h
  subst e1
  obtain _ | ⟨⟨i2, v2⟩, ρ⟩ := ρ
  · simp at h
  simp only [List.map_cons, List.cons.injEq] at h
  obtain ⟨e2, h⟩ := h
  subst e2
  obtain _ | ⟨⟨i3, v3⟩, ρ⟩ := ρ
  · simp at h
  simp only [List.map_cons, List.cons.injEq] at h
  obtain ⟨e3, h⟩ := h
  subst e3
  obtain _ | ⟨⟨i4, v4⟩, ρ⟩ := ρ
  · simp at h
  simp only [List.map_cons, List.cons.injEq] at h
  obtain ⟨e4, h⟩ := h
  subst e4
  obtain _ | ⟨⟨i5, v5⟩, ρ⟩ := ρ
  · simp at h
  simp only [List.map_cons, List.cons.injEq] at h
  obtain ⟨e5, h⟩ := h
  subst e5
  obtain _ | ⟨⟨i6, v6⟩, ρ⟩ := ρ
  · simp at h
  simp only [List.map_cons, List.cons.injEq] at h
  obtain ⟨e6, h⟩ := h
  subst e6
  obtain _ | ⟨⟨i7, v7⟩, ρ⟩ := ρ
  · simp at h
  simp only [List.map_cons, List.cons.injEq] at h
  obtain ⟨e7, h⟩ := h
  subst e7
  obtain _ | ⟨⟨i8, v8⟩, ρ⟩ := ρ
  · simp at h
  simp only [List.map_cons, List.cons.injEq] at h
  obtain ⟨e8, h⟩ := h
  subst e8
  obtain _ | ⟨⟨i9, v9⟩, ρ⟩ := ρ
  · simp at h
  simp only [List.map_cons, List.cons.injEq] at h
  obtain ⟨e9, h⟩ := h
  subst e9
  obtain _ | ⟨⟨i10, v10⟩, ρ⟩ := ρ
  · simp at h
  simp only [List.map_cons, List.cons.injEq] at h
  obtain ⟨e10, h⟩ := h
  subst e10
  obtain _ | ⟨⟨i11, v11⟩, ρ⟩ := ρ
  · simp at h
  simp only [List.map_cons, List.cons.injEq] at h
  obtain ⟨e11, h⟩ := h
  subst e11
  obtain _ | ⟨⟨i12, v12⟩, ρ⟩ := ρ
  · simp at h
  simp only [List.map_cons, List.cons.injEq] at h
  obtain ⟨e12, h⟩ := h
  subst e12
  obtain _ | ⟨⟨i13, v13⟩, ρ⟩ := ρ
  · simp at h
  simp only [List.map_cons, List.cons.injEq] at h
  obtain ⟨e13, h⟩ := h
  subst e13
  obtain _ | ⟨⟨i14, v14⟩, ρ⟩ := ρ
  · simp at h
  simp only [List.map_cons, List.cons.injEq] at h
  obtain ⟨e14, h⟩ := h
  subst e14
  obtain _ | ⟨⟨i15, v15⟩, ρ⟩ := ρ
  · simp at h
  simp only [List.map_cons, List.cons.injEq] at h
  obtain ⟨e15, h⟩ := h
  subst e15
  obtain _ | ⟨⟨i16, v16⟩, ρ⟩ := ρ
  · simp at h
  simp only [List.map_cons, List.cons.injEq] at h
  obtain ⟨e16, h⟩ := h
  subst e16
  obtain _ | ⟨⟨i17, v17⟩, ρ⟩ := ρ
  · simp at h
  simp only [List.map_cons, List.cons.injEq] at h
  obtain ⟨e17, h⟩ := h
  subst e17
  obtain _ | ⟨⟨i18, v18⟩, ρ⟩ := ρ
  · simp at h
  simp only [List.map_cons, List.cons.injEq] at h
  obtain ⟨e18, h⟩ := h
  subst e18
  obtain _ | ⟨⟨i19, v19⟩, ρ⟩ := ρ
  · simp at h
  simp only [List.map_cons, List.cons.injEq] at h
  obtain ⟨e19, h⟩ := h
  subst e19
  obtain _ | ⟨p, ρ⟩ := ρ
  · exact ⟨v0, v1, v2, v3, v4, v5, v6, v7, v8, v9, v10, v11, v12, v13, v14, v15, v16, v17, v18, v19, rfl⟩
  · simp at h
theorem r3 {x : Int} (h : 0 ≤ x ∧ x < 3) : x = 0 ∨ x = 1 ∨ x = 2 := by omega
theorem tail3 (l : List Int) (hl : l.length ≤ 4) (v0 v2 v3 v6 v7 v9 v11 v12 v13 v14 v15 v16 v17 v18 v19 : V) (τ : Sto) : ∃ ρ' σ', seqL [law_21] (seqL segF nilS) (rD v0 (.loc 0) v2 v3 (.int 3) (.int 6) v6 v7 tb3 v9 sp3 v11 v12 v13 v14 v15 v16 v17 v18 v19) (poolS l 2 :: τ) = some (some (.bool true), ρ', σ') := by
  rcases r3 (drw_range l 2 3 (by omega)) with hi | hi | hi <;> rcases r3 (drw_range l 3 3 (by omega)) with hj | hj | hj
  · rw [one (l21 l hl (L := [.lst [.int 1, .int 1, .int 1], .lst [.int (-1), .int 0, .int 2], .lst [.int 1, .int (-1), .int 1]]) (m := 3) (u := .lst [.int 1, .int 1, .int 1]) (v := .lst [.int 1, .int 1, .int 1]) rfl rfl rfl (by simp) (by rw [hi]; rfl) (by rw [hj]; rfl))]
    exact yes (eF3_0_0 v0 v2 v3 v6 v7 v9 v11 v12 v13 v14 v15 v16 v17 v18 v19 _)
  · rw [one (l21 l hl (L := [.lst [.int 1, .int 1, .int 1], .lst [.int (-1), .int 0, .int 2], .lst [.int 1, .int (-1), .int 1]]) (m := 3) (u := .lst [.int 1, .int 1, .int 1]) (v := .lst [.int (-1), .int 0, .int 2]) rfl rfl rfl (by simp) (by rw [hi]; rfl) (by rw [hj]; rfl))]
    exact yes (eF3_0_1 v0 v2 v3 v6 v7 v9 v11 v12 v13 v14 v15 v16 v17 v18 v19 _)
  · rw [one (l21 l hl (L := [.lst [.int 1, .int 1, .int 1], .lst [.int (-1), .int 0, .int 2], .lst [.int 1, .int (-1), .int 1]]) (m := 3) (u := .lst [.int 1, .int 1, .int 1]) (v := .lst [.int 1, .int (-1), .int 1]) rfl rfl rfl (by simp) (by rw [hi]; rfl) (by rw [hj]; rfl))]
    exact yes (eF3_0_2 v0 v2 v3 v6 v7 v9 v11 v12 v13 v14 v15 v16 v17 v18 v19 _)
  · rw [one (l21 l hl (L := [.lst [.int 1, .int 1, .int 1], .lst [.int (-1), .int 0, .int 2], .lst [.int 1, .int (-1), .int 1]]) (m := 3) (u := .lst [.int (-1), .int 0, .int 2]) (v := .lst [.int 1, .int 1, .int 1]) rfl rfl rfl (by simp) (by rw [hi]; rfl) (by rw [hj]; rfl))]
    exact yes (eF3_1_0 v0 v2 v3 v6 v7 v9 v11 v12 v13 v14 v15 v16 v17 v18 v19 _)
  · rw [one (l21 l hl (L := [.lst [.int 1, .int 1, .int 1], .lst [.int (-1), .int 0, .int 2], .lst [.int 1, .int (-1), .int 1]]) (m := 3) (u := .lst [.int (-1), .int 0, .int 2]) (v := .lst [.int (-1), .int 0, .int 2]) rfl rfl rfl (by simp) (by rw [hi]; rfl) (by rw [hj]; rfl))]
    exact yes (eF3_1_1 v0 v2 v3 v6 v7 v9 v11 v12 v13 v14 v15 v16 v17 v18 v19 _)
  · rw [one (l21 l hl (L := [.lst [.int 1, .int 1, .int 1], .lst [.int (-1), .int 0, .int 2], .lst [.int 1, .int (-1), .int 1]]) (m := 3) (u := .lst [.int (-1), .int 0, .int 2]) (v := .lst [.int 1, .int (-1), .int 1]) rfl rfl rfl (by simp) (by rw [hi]; rfl) (by rw [hj]; rfl))]
    exact yes (eF3_1_2 v0 v2 v3 v6 v7 v9 v11 v12 v13 v14 v15 v16 v17 v18 v19 _)
  · rw [one (l21 l hl (L := [.lst [.int 1, .int 1, .int 1], .lst [.int (-1), .int 0, .int 2], .lst [.int 1, .int (-1), .int 1]]) (m := 3) (u := .lst [.int 1, .int (-1), .int 1]) (v := .lst [.int 1, .int 1, .int 1]) rfl rfl rfl (by simp) (by rw [hi]; rfl) (by rw [hj]; rfl))]
    exact yes (eF3_2_0 v0 v2 v3 v6 v7 v9 v11 v12 v13 v14 v15 v16 v17 v18 v19 _)
  · rw [one (l21 l hl (L := [.lst [.int 1, .int 1, .int 1], .lst [.int (-1), .int 0, .int 2], .lst [.int 1, .int (-1), .int 1]]) (m := 3) (u := .lst [.int 1, .int (-1), .int 1]) (v := .lst [.int (-1), .int 0, .int 2]) rfl rfl rfl (by simp) (by rw [hi]; rfl) (by rw [hj]; rfl))]
    exact yes (eF3_2_1 v0 v2 v3 v6 v7 v9 v11 v12 v13 v14 v15 v16 v17 v18 v19 _)
  · rw [one (l21 l hl (L := [.lst [.int 1, .int 1, .int 1], .lst [.int (-1), .int 0, .int 2], .lst [.int 1, .int (-1), .int 1]]) (m := 3) (u := .lst [.int 1, .int (-1), .int 1]) (v := .lst [.int 1, .int (-1), .int 1]) rfl rfl rfl (by simp) (by rw [hi]; rfl) (by rw [hj]; rfl))]
    exact yes (eF3_2_2 v0 v2 v3 v6 v7 v9 v11 v12 v13 v14 v15 v16 v17 v18 v19 _)
theorem mid3 (l : List Int) (hl : l.length ≤ 4) (sv : V) : ∃ ρ' σ', seqL [law_4] (seqL segC (seqL segD (seqL [law_21] (seqL segF nilS)))) (rA3 sv) [poolS l 1] = some (some (.bool true), ρ', σ') := by
  rcases r3 (drw_range l 1 3 (by omega)) with hs | hs | hs
  · rw [one (l4 l hl (ρ := rA3 sv) (L := [.lst [.int 3], .lst [.int 2, .int 1], .lst [.int 1, .int 1, .int 1]]) (m := 3) (v := .lst [.int 3]) rfl rfl rfl (by simp) (by rw [hs]; rfl)), seqL_next (eC3 sv (.lst [.int 3]) (poolS l 2))]
    obtain ⟨ρ, τ, h0, h1, h2, h3, h4, h5, h6⟩ := projD_inv (eD3_0 sv (poolS l 2))
    rw [seqL_next h0]
    obtain ⟨v0, v1, v2, v3, v4, v5, v6, v7, v8, v9, v10, v11, v12, v13, v14, v15, v16, v17, v18, v19, rfl⟩ := shapeD ρ h1
    obtain rfl := Option.some.inj (show some v8 = some _ from h2)
    obtain rfl := Option.some.inj (show some v10 = some _ from h3)
    obtain rfl := Option.some.inj (show some v5 = some _ from h4)
    obtain rfl := Option.some.inj (show some v4 = some _ from h5)
    obtain rfl := Option.some.inj (show some v1 = some _ from h6)
    exact tail3 l hl v0 v2 v3 v6 v7 v9 v11 v12 v13 v14 v15 v16 v17 v18 v19 τ
  · rw [one (l4 l hl (ρ := rA3 sv) (L := [.lst [.int 3], .lst [.int 2, .int 1], .lst [.int 1, .int 1, .int 1]]) (m := 3) (v := .lst [.int 2, .int 1]) rfl rfl rfl (by simp) (by rw [hs]; rfl)), seqL_next (eC3 sv (.lst [.int 2, .int 1]) (poolS l 2))]
    obtain ⟨ρ, τ, h0, h1, h2, h3, h4, h5, h6⟩ := projD_inv (eD3_1 sv (poolS l 2))
    rw [seqL_next h0]
    obtain ⟨v0, v1, v2, v3, v4, v5, v6, v7, v8, v9, v10, v11, v12, v13, v14, v15, v16, v17, v18, v19, rfl⟩ := shapeD ρ h1
    obtain rfl := Option.some.inj (show some v8 = some _ from h2)
    obtain rfl := Option.some.inj (show some v10 = some _ from h3)
    obtain rfl := Option.some.inj (show some v5 = some _ from h4)
    obtain rfl := Option.some.inj (show some v4 = some _ from h5)
    obtain rfl := Option.some.inj (show some v1 = some _ from h6)
    exact tail3 l hl v0 v2 v3 v6 v7 v9 v11 v12 v13 v14 v15 v16 v17 v18 v19 τ
  · rw [one (l4 l hl (ρ := rA3 sv) (L := [.lst [.int 3], .lst [.int 2, .int 1], .lst [.int 1, .int 1, .int 1]]) (m := 3) (v := .lst [.int 1, .int 1, .int 1]) rfl rfl rfl (by simp) (by rw [hs]; rfl)), seqL_next (eC3 sv (.lst [.int 1, .int 1, .int 1]) (poolS l 2))]
    obtain ⟨ρ, τ, h0, h1, h2, h3, h4, h5, h6⟩ := projD_inv (eD3_2 sv (poolS l 2))
    rw [seqL_next h0]
    obtain ⟨v0, v1, v2, v3, v4, v5, v6, v7, v8, v9, v10, v11, v12, v13, v14, v15, v16, v17, v18, v19, rfl⟩ := shapeD ρ h1
    obtain rfl := Option.some.inj (show some v8 = some _ from h2)
    obtain rfl := Option.some.inj (show some v10 = some _ from h3)
    obtain rfl := Option.some.inj (show some v5 = some _ from h4)
    obtain rfl := Option.some.inj (show some v4 = some _ from h5)
    obtain rfl := Option.some.inj (show some v1 = some _ from h6)
    exact tail3 l hl v0 v2 v3 v6 v7 v9 v11 v12 v13 v14 v15 v16 v17 v18 v19 τ
theorem r4 {x : Int} (h : 0 ≤ x ∧ x < 5) : x = 0 ∨ x = 1 ∨ x = 2 ∨ x = 3 ∨ x = 4 := by omega
theorem tail4 (l : List Int) (hl : l.length ≤ 4) (v0 v2 v3 v6 v7 v9 v11 v12 v13 v14 v15 v16 v17 v18 v19 : V) (τ : Sto) : ∃ ρ' σ', seqL [law_21] (seqL segF nilS) (rD v0 (.loc 0) v2 v3 (.int 5) (.int 24) v6 v7 tb4 v9 sp4 v11 v12 v13 v14 v15 v16 v17 v18 v19) (poolS l 2 :: τ) = some (some (.bool true), ρ', σ') := by
  rcases r4 (drw_range l 2 5 (by omega)) with hi | hi | hi | hi | hi <;> rcases r4 (drw_range l 3 5 (by omega)) with hj | hj | hj | hj | hj
  · rw [one (l21 l hl (L := [.lst [.int 1, .int 1, .int 1, .int 1, .int 1], .lst [.int (-1), .int 0, .int (-1), .int 1, .int 3], .lst [.int 0, .int (-1), .int 2, .int 0, .int 2], .lst [.int 1, .int 0, .int (-1), .int (-1), .int 3], .lst [.int (-1), .int 1, .int 1, .int (-1), .int 1]]) (m := 5) (u := .lst [.int 1, .int 1, .int 1, .int 1, .int 1]) (v := .lst [.int 1, .int 1, .int 1, .int 1, .int 1]) rfl rfl rfl (by simp) (by rw [hi]; rfl) (by rw [hj]; rfl))]
    exact yes (eF4_0_0 v0 v2 v3 v6 v7 v9 v11 v12 v13 v14 v15 v16 v17 v18 v19 _)
  · rw [one (l21 l hl (L := [.lst [.int 1, .int 1, .int 1, .int 1, .int 1], .lst [.int (-1), .int 0, .int (-1), .int 1, .int 3], .lst [.int 0, .int (-1), .int 2, .int 0, .int 2], .lst [.int 1, .int 0, .int (-1), .int (-1), .int 3], .lst [.int (-1), .int 1, .int 1, .int (-1), .int 1]]) (m := 5) (u := .lst [.int 1, .int 1, .int 1, .int 1, .int 1]) (v := .lst [.int (-1), .int 0, .int (-1), .int 1, .int 3]) rfl rfl rfl (by simp) (by rw [hi]; rfl) (by rw [hj]; rfl))]
    exact yes (eF4_0_1 v0 v2 v3 v6 v7 v9 v11 v12 v13 v14 v15 v16 v17 v18 v19 _)
  · rw [one (l21 l hl (L := [.lst [.int 1, .int 1, .int 1, .int 1, .int 1], .lst [.int (-1), .int 0, .int (-1), .int 1, .int 3], .lst [.int 0, .int (-1), .int 2, .int 0, .int 2], .lst [.int 1, .int 0, .int (-1), .int (-1), .int 3], .lst [.int (-1), .int 1, .int 1, .int (-1), .int 1]]) (m := 5) (u := .lst [.int 1, .int 1, .int 1, .int 1, .int 1]) (v := .lst [.int 0, .int (-1), .int 2, .int 0, .int 2]) rfl rfl rfl (by simp) (by rw [hi]; rfl) (by rw [hj]; rfl))]
    exact yes (eF4_0_2 v0 v2 v3 v6 v7 v9 v11 v12 v13 v14 v15 v16 v17 v18 v19 _)
  · rw [one (l21 l hl (L := [.lst [.int 1, .int 1, .int 1, .int 1, .int 1], .lst [.int (-1), .int 0, .int (-1), .int 1, .int 3], .lst [.int 0, .int (-1), .int 2, .int 0, .int 2], .lst [.int 1, .int 0, .int (-1), .int (-1), .int 3], .lst [.int (-1), .int 1, .int 1, .int (-1), .int 1]]) (m := 5) (u := .lst [.int 1, .int 1, .int 1, .int 1, .int 1]) (v := .lst [.int 1, .int 0, .int (-1), .int (-1), .int 3]) rfl rfl rfl (by simp) (by rw [hi]; rfl) (by rw [hj]; rfl))]
    exact yes (eF4_0_3 v0 v2 v3 v6 v7 v9 v11 v12 v13 v14 v15 v16 v17 v18 v19 _)
  · rw [one (l21 l hl (L := [.lst [.int 1, .int 1, .int 1, .int 1, .int 1], .lst [.int (-1), .int 0, .int (-1), .int 1, .int 3], .lst [.int 0, .int (-1), .int 2, .int 0, .int 2], .lst [.int 1, .int 0, .int (-1), .int (-1), .int 3], .lst [.int (-1), .int 1, .int 1, .int (-1), .int 1]]) (m := 5) (u := .lst [.int 1, .int 1, .int 1, .int 1, .int 1]) (v := .lst [.int (-1), .int 1, .int 1, .int (-1), .int 1]) rfl rfl rfl (by simp) (by rw [hi]; rfl) (by rw [hj]; rfl))]
    exact yes (eF4_0_4 v0 v2 v3 v6 v7 v9 v11 v12 v13 v14 v15 v16 v17 v18 v19 _)
  · rw [one (l21 l hl (L := [.lst [.int 1, .int 1, .int 1, .int 1, .int 1], .lst [.int (-1), .int 0, .int (-1), .int 1, .int 3], .lst [.int 0, .int (-1), .int 2, .int 0, .int 2], .lst [.int 1, .int 0, .int (-1), .int (-1), .int 3], .lst [.int (-1), .int 1, .int 1, .int (-1), .int 1]]) (m := 5) (u := .lst [.int (-1), .int 0, .int (-1), .int 1, .int 3]) (v := .lst [.int 1, .int 1, .int 1, .int 1, .int 1]) rfl rfl rfl (by simp) (by rw [hi]; rfl) (by rw [hj]; rfl))]
    exact yes (eF4_1_0 v0 v2 v3 v6 v7 v9 v11 v12 v13 v14 v15 v16 v17 v18 v19 _)
  · rw [one (l21 l hl (L := [.lst [.int 1, .int 1, .int 1, .int 1, .int 1], .lst [.int (-1), .int 0, .int (-1), .int 1, .int 3], .lst [.int 0, .int (-1), .int 2, .int 0, .int 2], .lst [.int 1, .int 0, .int (-1), .int (-1), .int 3], .lst [.int (-1), .int 1, .int 1, .int (-1), .int 1]]) (m := 5) (u := .lst [.int (-1), .int 0, .int (-1), .int 1, .int 3]) (v := .lst [.int (-1), .int 0, .int (-1), .int 1, .int 3]) rfl rfl rfl (by simp) (by rw [hi]; rfl) (by rw [hj]; rfl))]
    exact yes (eF4_1_1 v0 v2 v3 v6 v7 v9 v11 v12 v13 v14 v15 v16 v17 v18 v19 _)
  · rw [one (l21 l hl (L := [.lst [.int 1, .int 1, .int 1, .int 1, .int 1], .lst [.int (-1), .int 0, .int (-1), .int 1, .int 3], .lst [.int 0, .int (-1), .int 2, .int 0, .int 2], .lst [.int 1, .int 0, .int (-1), .int (-1), .int 3], .lst [.int (-1), .int 1, .int 1, .int (-1), .int 1]]) (m := 5) (u := .lst [.int (-1), .int 0, .int (-1), .int 1, .int 3]) (v := .lst [.int 0, .int (-1), .int 2, .int 0, .int 2]) rfl rfl rfl (by simp) (by rw [hi]; rfl) (by rw [hj]; rfl))]
    exact yes (eF4_1_2 v0 v2 v3 v6 v7 v9 v11 v12 v13 v14 v15 v16 v17 v18 v19 _)
  · rw [one (l21 l hl (L := [.lst [.int 1, .int 1, .int 1, .int 1, .int 1], .lst [.int (-1), .int 0, .int (-1), .int 1, .int 3], .lst [.int 0, .int (-1), .int 2, .int 0, .int 2], .lst [.int 1, .int 0, .int (-1), .int (-1), .int 3], .lst [.int (-1), .int 1, .int 1, .int (-1), .int 1]]) (m := 5) (u := .lst [.int (-1), .int 0, .int (-1), .int 1, .int 3]) (v := .lst [.int 1, .int 0, .int (-1), .int (-1), .int 3]) rfl rfl rfl (by simp) (by rw [hi]; rfl) (by rw [hj]; rfl))]
    exact yes (eF4_1_3 v0 v2 v3 v6 v7 v9 v11 v12 v13 v14 v15 v16 v17 v18 v19 _)
  · rw [one (l21 l hl (L := [.lst [.int 1, .int 1, .int 1, .int 1, .int 1], .lst [.int (-1), .int 0, .int (-1), .int 1, .int 3], .lst [.int 0, .int (-1), .int 2, .int 0, .int 2], .lst [.int 1, .int 0, .int (-1), .int (-1), .int 3], .lst [.int (-1), .int 1, .int 1, .int (-1), .int 1]]) (m := 5) (u := .lst [.int (-1), .int 0, .int (-1), .int 1, .int 3]) (v := .lst [.int (-1), .int 1, .int 1, .int (-1), .int 1]) rfl rfl rfl (by simp) (by rw [hi]; rfl) (by rw [hj]; rfl))]
    exact yes (eF4_1_4 v0 v2 v3 v6 v7 v9 v11 v12 v13 v14 v15 v16 v17 v18 v19 _)
  · rw [one (l21 l hl (L := [.lst [.int 1, .int 1, .int 1, .int 1, .int 1], .lst [.int (-1), .int 0, .int (-1), .int 1, .int 3], .lst [.int 0, .int (-1), .int 2, .int 0, .int 2], .lst [.int 1, .int 0, .int (-1), .int (-1), .int 3], .lst [.int (-1), .int 1, .int 1, .int (-1), .int 1]]) (m := 5) (u := .lst [.int 0, .int (-1), .int 2, .int 0, .int 2]) (v := .lst [.int 1, .int 1, .int 1, .int 1, .int 1]) rfl rfl rfl (by simp) (by rw [hi]; rfl) (by rw [hj]; rfl))]
    exact yes (eF4_2_0 v0 v2 v3 v6 v7 v9 v11 v12 v13 v14 v15 v16 v17 v18 v19 _)
  · rw [one (l21 l hl (L := [.lst [.int 1, .int 1, .int 1, .int 1, .int 1], .lst [.int (-1), .int 0, .int (-1), .int 1, .int 3], .lst [.int 0, .int (-1), .int 2, .int 0, .int 2], .lst [.int 1, .int 0, .int (-1), .int (-1), .int 3], .lst [.int (-1), .int 1, .int 1, .int (-1), .int 1]]) (m := 5) (u := .lst [.int 0, .int (-1), .int 2, .int 0, .int 2]) (v := .lst [.int (-1), .int 0, .int (-1), .int 1, .int 3]) rfl rfl rfl (by simp) (by rw [hi]; rfl) (by rw [hj]; rfl))]
    exact yes (eF4_2_1 v0 v2 v3 v6 v7 v9 v11 v12 v13 v14 v15 v16 v17 v18 v19 _)
  · rw [one (l21 l hl (L := [.lst [.int 1, .int 1, .int 1, .int 1, .int 1], .lst [.int (-1), .int 0, .int (-1), .int 1, .int 3], .lst [.int 0, .int (-1), .int 2, .int 0, .int 2], .lst [.int 1, .int 0, .int (-1), .int (-1), .int 3], .lst [.int (-1), .int 1, .int 1, .int (-1), .int 1]]) (m := 5) (u := .lst [.int 0, .int (-1), .int 2, .int 0, .int 2]) (v := .lst [.int 0, .int (-1), .int 2, .int 0, .int 2]) rfl rfl rfl (by simp) (by rw [hi]; rfl) (by rw [hj]; rfl))]
    exact yes (eF4_2_2 v0 v2 v3 v6 v7 v9 v11 v12 v13 v14 v15 v16 v17 v18 v19 _)
  · rw [one (l21 l hl (L := [.lst [.int 1, .int 1, .int 1, .int 1, .int 1], .lst [.int (-1), .int 0, .int (-1), .int 1, .int 3], .lst [.int 0, .int (-1), .int 2, .int 0, .int 2], .lst [.int 1, .int 0, .int (-1), .int (-1), .int 3], .lst [.int (-1), .int 1, .int 1, .int (-1), .int 1]]) (m := 5) (u := .lst [.int 0, .int (-1), .int 2, .int 0, .int 2]) (v := .lst [.int 1, .int 0, .int (-1), .int (-1), .int 3]) rfl rfl rfl (by simp) (by rw [hi]; rfl) (by rw [hj]; rfl))]
    exact yes (eF4_2_3 v0 v2 v3 v6 v7 v9 v11 v12 v13 v14 v15 v16 v17 v18 v19 _)
  · rw [one (l21 l hl (L := [.lst [.int 1, .int 1, .int 1, .int 1, .int 1], .lst [.int (-1), .int 0, .int (-1), .int 1, .int 3], .lst [.int 0, .int (-1), .int 2, .int 0, .int 2], .lst [.int 1, .int 0, .int (-1), .int (-1), .int 3], .lst [.int (-1), .int 1, .int 1, .int (-1), .int 1]]) (m := 5) (u := .lst [.int 0, .int (-1), .int 2, .int 0, .int 2]) (v := .lst [.int (-1), .int 1, .int 1, .int (-1), .int 1]) rfl rfl rfl (by simp) (by rw [hi]; rfl) (by rw [hj]; rfl))]
    exact yes (eF4_2_4 v0 v2 v3 v6 v7 v9 v11 v12 v13 v14 v15 v16 v17 v18 v19 _)
  · rw [one (l21 l hl (L := [.lst [.int 1, .int 1, .int 1, .int 1, .int 1], .lst [.int (-1), .int 0, .int (-1), .int 1, .int 3], .lst [.int 0, .int (-1), .int 2, .int 0, .int 2], .lst [.int 1, .int 0, .int (-1), .int (-1), .int 3], .lst [.int (-1), .int 1, .int 1, .int (-1), .int 1]]) (m := 5) (u := .lst [.int 1, .int 0, .int (-1), .int (-1), .int 3]) (v := .lst [.int 1, .int 1, .int 1, .int 1, .int 1]) rfl rfl rfl (by simp) (by rw [hi]; rfl) (by rw [hj]; rfl))]
    exact yes (eF4_3_0 v0 v2 v3 v6 v7 v9 v11 v12 v13 v14 v15 v16 v17 v18 v19 _)
  · rw [one (l21 l hl (L := [.lst [.int 1, .int 1, .int 1, .int 1, .int 1], .lst [.int (-1), .int 0, .int (-1), .int 1, .int 3], .lst [.int 0, .int (-1), .int 2, .int 0, .int 2], .lst [.int 1, .int 0, .int (-1), .int (-1), .int 3], .lst [.int (-1), .int 1, .int 1, .int (-1), .int 1]]) (m := 5) (u := .lst [.int 1, .int 0, .int (-1), .int (-1), .int 3]) (v := .lst [.int (-1), .int 0, .int (-1), .int 1, .int 3]) rfl rfl rfl (by simp) (by rw [hi]; rfl) (by rw [hj]; rfl))]
    exact yes (eF4_3_1 v0 v2 v3 v6 v7 v9 v11 v12 v13 v14 v15 v16 v17 v18 v19 _)
  · rw [one (l21 l hl (L := [.lst [.int 1, .int 1, .int 1, .int 1, .int 1], .lst [.int (-1), .int 0, .int (-1), .int 1, .int 3], .lst [.int 0, .int (-1), .int 2, .int 0, .int 2], .lst [.int 1, .int 0, .int (-1), .int (-1), .int 3], .lst [.int (-1), .int 1, .int 1, .int (-1), .int 1]]) (m := 5) (u := .lst [.int 1, .int 0, .int (-1), .int (-1), .int 3]) (v := .lst [.int 0, .int (-1), .int 2, .int 0, .int 2]) rfl rfl rfl (by simp) (by rw [hi]; rfl) (by rw [hj]; rfl))]
    exact yes (eF4_3_2 v0 v2 v3 v6 v7 v9 v11 v12 v13 v14 v15 v16 v17 v18 v19 _)
  · rw [one (l21 l hl (L := [.lst [.int 1, .int 1, .int 1, .int 1, .int 1], .lst [.int (-1), .int 0, .int (-1), .int 1, .int 3], .lst [.int 0, .int (-1), .int 2, .int 0, .int 2], .lst [.int 1, .int 0, .int (-1), .int (-1), .int 3], .lst [.int (-1), .int 1, .int 1, .int (-1), .int 1]]) (m := 5) (u := .lst [.int 1, .int 0, .int (-1), .int (-1), .int 3]) (v := .lst [.int 1, .int 0, .int (-1), .int (-1), .int 3]) rfl rfl rfl (by simp) (by rw [hi]; rfl) (by rw [hj]; rfl))]
    exact yes (eF4_3_3 v0 v2 v3 v6 v7 v9 v11 v12 v13 v14 v15 v16 v17 v18 v19 _)
  · rw [one (l21 l hl (L := [.lst [.int 1, .int 1, .int 1, .int 1, .int 1], .lst [.int (-1), .int 0, .int (-1), .int 1, .int 3], .lst [.int 0, .int (-1), .int 2, .int 0, .int 2], .lst [.int 1, .int 0, .int (-1), .int (-1), .int 3], .lst [.int (-1), .int 1, .int 1, .int (-1), .int 1]]) (m := 5) (u := .lst [.int 1, .int 0, .int (-1), .int (-1), .int 3]) (v := .lst [.int (-1), .int 1, .int 1, .int (-1), .int 1]) rfl rfl rfl (by simp) (by rw [hi]; rfl) (by rw [hj]; rfl))]
    exact yes (eF4_3_4 v0 v2 v3 v6 v7 v9 v11 v12 v13 v14 v15 v16 v17 v18 v19 _)
  · rw [one (l21 l hl (L := [.lst [.int 1, .int 1, .int 1, .int 1, .int 1], .lst [.int (-1), .int 0, .int (-1), .int 1, .int 3], .lst [.int 0, .int (-1), .int 2, .int 0, .int 2], .lst [.int 1, .int 0, .int (-1), .int (-1), .int 3], .lst [.int (-1), .int 1, .int 1, .int (-1), .int 1]]) (m := 5) (u := .lst [.int (-1), .int 1, .int 1, .int (-1), .int 1]) (v := .lst [.int 1, .int 1, .int 1, .int 1, .int 1]) rfl rfl rfl (by simp) (by rw [hi]; rfl) (by rw [hj]; rfl))]
    exact yes (eF4_4_0 v0 v2 v3 v6 v7 v9 v11 v12 v13 v14 v15 v16 v17 v18 v19 _)
  · rw [one (l21 l hl (L := [.lst [.int 1, .int 1, .int 1, .int 1, .int 1], .lst [.int (-1), .int 0, .int (-1), .int 1, .int 3], .lst [.int 0, .int (-1), .int 2, .int 0, .int 2], .lst [.int 1, .int 0, .int (-1), .int (-1), .int 3], .lst [.int (-1), .int 1, .int 1, .int (-1), .int 1]]) (m := 5) (u := .lst [.int (-1), .int 1, .int 1, .int (-1), .int 1]) (v := .lst [.int (-1), .int 0, .int (-1), .int 1, .int 3]) rfl rfl rfl (by simp) (by rw [hi]; rfl) (by rw [hj]; rfl))]
    exact yes (eF4_4_1 v0 v2 v3 v6 v7 v9 v11 v12 v13 v14 v15 v16 v17 v18 v19 _)
  · rw [one (l21 l hl (L := [.lst [.int 1, .int 1, .int 1, .int 1, .int 1], .lst [.int (-1), .int 0, .int (-1), .int 1, .int 3], .lst [.int 0, .int (-1), .int 2, .int 0, .int 2], .lst [.int 1, .int 0, .int (-1), .int (-1), .int 3], .lst [.int (-1), .int 1, .int 1, .int (-1), .int 1]]) (m := 5) (u := .lst [.int (-1), .int 1, .int 1, .int (-1), .int 1]) (v := .lst [.int 0, .int (-1), .int 2, .int 0, .int 2]) rfl rfl rfl (by simp) (by rw [hi]; rfl) (by rw [hj]; rfl))]
    exact yes (eF4_4_2 v0 v2 v3 v6 v7 v9 v11 v12 v13 v14 v15 v16 v17 v18 v19 _)
  · rw [one (l21 l hl (L := [.lst [.int 1, .int 1, .int 1, .int 1, .int 1], .lst [.int (-1), .int 0, .int (-1), .int 1, .int 3], .lst [.int 0, .int (-1), .int 2, .int 0, .int 2], .lst [.int 1, .int 0, .int (-1), .int (-1), .int 3], .lst [.int (-1), .int 1, .int 1, .int (-1), .int 1]]) (m := 5) (u := .lst [.int (-1), .int 1, .int 1, .int (-1), .int 1]) (v := .lst [.int 1, .int 0, .int (-1), .int (-1), .int 3]) rfl rfl rfl (by simp) (by rw [hi]; rfl) (by rw [hj]; rfl))]
    exact yes (eF4_4_3 v0 v2 v3 v6 v7 v9 v11 v12 v13 v14 v15 v16 v17 v18 v19 _)
  · rw [one (l21 l hl (L := [.lst [.int 1, .int 1, .int 1, .int 1, .int 1], .lst [.int (-1), .int 0, .int (-1), .int 1, .int 3], .lst [.int 0, .int (-1), .int 2, .int 0, .int 2], .lst [.int 1, .int 0, .int (-1), .int (-1), .int 3], .lst [.int (-1), .int 1, .int 1, .int (-1), .int 1]]) (m := 5) (u := .lst [.int (-1), .int 1, .int 1, .int (-1), .int 1]) (v := .lst [.int (-1), .int 1, .int 1, .int (-1), .int 1]) rfl rfl rfl (by simp) (by rw [hi]; rfl) (by rw [hj]; rfl))]
    exact yes (eF4_4_4 v0 v2 v3 v6 v7 v9 v11 v12 v13 v14 v15 v16 v17 v18 v19 _)
theorem mid4 (l : List Int) (hl : l.length ≤ 4) (sv : V) : ∃ ρ' σ', seqL [law_4] (seqL segC (seqL segD (seqL [law_21] (seqL segF nilS)))) (rA4 sv) [poolS l 1] = some (some (.bool true), ρ', σ') := by
  rcases r4 (drw_range l 1 5 (by omega)) with hs | hs | hs | hs | hs
  · rw [one (l4 l hl (ρ := rA4 sv) (L := [.lst [.int 4], .lst [.int 3, .int 1], .lst [.int 2, .int 2], .lst [.int 2, .int 1, .int 1], .lst [.int 1, .int 1, .int 1, .int 1]]) (m := 5) (v := .lst [.int 4]) rfl rfl rfl (by simp) (by rw [hs]; rfl)), seqL_next (eC4 sv (.lst [.int 4]) (poolS l 2))]
    obtain ⟨ρ, τ, h0, h1, h2, h3, h4, h5, h6⟩ := projD_inv (eD4_0 sv (poolS l 2))
    rw [seqL_next h0]
    obtain ⟨v0, v1, v2, v3, v4, v5, v6, v7, v8, v9, v10, v11, v12, v13, v14, v15, v16, v17, v18, v19, rfl⟩ := shapeD ρ h1
    obtain rfl := Option.some.inj (show some v8 = some _ from h2)
    obtain rfl := Option.some.inj (show some v10 = some _ from h3)
    obtain rfl := Option.some.inj (show some v5 = some _ from h4)
    obtain rfl := Option.some.inj (show some v4 = some _ from h5)
    obtain rfl := Option.some.inj (show some v1 = some _ from h6)
    exact tail4 l hl v0 v2 v3 v6 v7 v9 v11 v12 v13 v14 v15 v16 v17 v18 v19 τ
  · rw [one (l4 l hl (ρ := rA4 sv) (L := [.lst [.int 4], .lst [.int 3, .int 1], .lst [.int 2, .int 2], .lst [.int 2, .int 1, .int 1], .lst [.int 1, .int 1, .int 1, .int 1]]) (m := 5) (v := .lst [.int 3, .int 1]) rfl rfl rfl (by simp) (by rw [hs]; rfl)), seqL_next (eC4 sv (.lst [.int 3, .int 1]) (poolS l 2))]
    obtain ⟨ρ, τ, h0, h1, h2, h3, h4, h5, h6⟩ := projD_inv (eD4_1 sv (poolS l 2))
    rw [seqL_next h0]
    obtain ⟨v0, v1, v2, v3, v4, v5, v6, v7, v8, v9, v10, v11, v12, v13, v14, v15, v16, v17, v18, v19, rfl⟩ := shapeD ρ h1
    obtain rfl := Option.some.inj (show some v8 = some _ from h2)
    obtain rfl := Option.some.inj (show some v10 = some _ from h3)
    obtain rfl := Option.some.inj (show some v5 = some _ from h4)
    obtain rfl := Option.some.inj (show some v4 = some _ from h5)
    obtain rfl := Option.some.inj (show some v1 = some _ from h6)
    exact tail4 l hl v0 v2 v3 v6 v7 v9 v11 v12 v13 v14 v15 v16 v17 v18 v19 τ
  · rw [one (l4 l hl (ρ := rA4 sv) (L := [.lst [.int 4], .lst [.int 3, .int 1], .lst [.int 2, .int 2], .lst [.int 2, .int 1, .int 1], .lst [.int 1, .int 1, .int 1, .int 1]]) (m := 5) (v := .lst [.int 2, .int 2]) rfl rfl rfl (by simp) (by rw [hs]; rfl)), seqL_next (eC4 sv (.lst [.int 2, .int 2]) (poolS l 2))]
    obtain ⟨ρ, τ, h0, h1, h2, h3, h4, h5, h6⟩ := projD_inv (eD4_2 sv (poolS l 2))
    rw [seqL_next h0]
    obtain ⟨v0, v1, v2, v3, v4, v5, v6, v7, v8, v9, v10, v11, v12, v13, v14, v15, v16, v17, v18, v19, rfl⟩ := shapeD ρ h1
    obtain rfl := Option.some.inj (show some v8 = some _ from h2)
    obtain rfl := Option.some.inj (show some v10 = some _ from h3)
    obtain rfl := Option.some.inj (show some v5 = some _ from h4)
    obtain rfl := Option.some.inj (show some v4 = some _ from h5)
    obtain rfl := Option.some.inj (show some v1 = some _ from h6)
    exact tail4 l hl v0 v2 v3 v6 v7 v9 v11 v12 v13 v14 v15 v16 v17 v18 v19 τ
  · rw [one (l4 l hl (ρ := rA4 sv) (L := [.lst [.int 4], .lst [.int 3, .int 1], .lst [.int 2, .int 2], .lst [.int 2, .int 1, .int 1], .lst [.int 1, .int 1, .int 1, .int 1]]) (m := 5) (v := .lst [.int 2, .int 1, .int 1]) rfl rfl rfl (by simp) (by rw [hs]; rfl)), seqL_next (eC4 sv (.lst [.int 2, .int 1, .int 1]) (poolS l 2))]
    obtain ⟨ρ, τ, h0, h1, h2, h3, h4, h5, h6⟩ := projD_inv (eD4_3 sv (poolS l 2))
    rw [seqL_next h0]
    obtain ⟨v0, v1, v2, v3, v4, v5, v6, v7, v8, v9, v10, v11, v12, v13, v14, v15, v16, v17, v18, v19, rfl⟩ := shapeD ρ h1
    obtain rfl := Option.some.inj (show some v8 = some _ from h2)
    obtain rfl := Option.some.inj (show some v10 = some _ from h3)
    obtain rfl := Option.some.inj (show some v5 = some _ from h4)
    obtain rfl := Option.some.inj (show some v4 = some _ from h5)
    obtain rfl := Option.some.inj (show some v1 = some _ from h6)
    exact tail4 l hl v0 v2 v3 v6 v7 v9 v11 v12 v13 v14 v15 v16 v17 v18 v19 τ
  · rw [one (l4 l hl (ρ := rA4 sv) (L := [.lst [.int 4], .lst [.int 3, .int 1], .lst [.int 2, .int 2], .lst [.int 2, .int 1, .int 1], .lst [.int 1, .int 1, .int 1, .int 1]]) (m := 5) (v := .lst [.int 1, .int 1, .int 1, .int 1]) rfl rfl rfl (by simp) (by rw [hs]; rfl)), seqL_next (eC4 sv (.lst [.int 1, .int 1, .int 1, .int 1]) (poolS l 2))]
    obtain ⟨ρ, τ, h0, h1, h2, h3, h4, h5, h6⟩ := projD_inv (eD4_4 sv (poolS l 2))
    rw [seqL_next h0]
    obtain ⟨v0, v1, v2, v3, v4, v5, v6, v7, v8, v9, v10, v11, v12, v13, v14, v15, v16, v17, v18, v19, rfl⟩ := shapeD ρ h1
    obtain rfl := Option.some.inj (show some v8 = some _ from h2)
    obtain rfl := Option.some.inj (show some v10 = some _ from h3)
    obtain rfl := Option.some.inj (show some v5 = some _ from h4)
    obtain rfl := Option.some.inj (show some v4 = some _ from h5)
    obtain rfl := Option.some.inj (show some v1 = some _ from h6)
    exact tail4 l hl v0 v2 v3 v6 v7 v9 v11 v12 v13 v14 v15 v16 v17 v18 v19 τ
theorem r5 {x : Int} (h : 0 ≤ x ∧ x < 7) : x = 0 ∨ x = 1 ∨ x = 2 ∨ x = 3 ∨ x = 4 ∨ x = 5 ∨ x = 6 := by omega
theorem tail5 (l : List Int) (hl : l.length ≤ 4) (v0 v2 v3 v6 v7 v9 v11 v12 v13 v14 v15 v16 v17 v18 v19 : V) (τ : Sto) : ∃ ρ' σ', seqL [law_21] (seqL segF nilS) (rD v0 (.loc 0) v2 v3 (.int 7) (.int 120) v6 v7 tb5 v9 sp5 v11 v12 v13 v14 v15 v16 v17 v18 v19) (poolS l 2 :: τ) = some (some (.bool true), ρ', σ') := by
  rcases r5 (drw_range l 2 7 (by omega)) with hi | hi | hi | hi | hi | hi | hi <;> rcases r5 (drw_range l 3 7 (by omega)) with hj | hj | hj | hj | hj | hj | hj
  · rw [one (l21 l hl (L := [.lst [.int 1, .int 1, .int 1, .int 1, .int 1, .int 1, .int 1], .lst [.int (-1), .int 0, .int (-1), .int 1, .int 0, .int 2, .int 4], .lst [.int 0, .int (-1), .int 1, .int (-1), .int 1, .int 1, .int 5], .lst [.int 1, .int 0, .int 0, .int 0, .int (-2), .int 0, .int 6], .lst [.int 0, .int 1, .int (-1), .int (-1), .int 1, .int (-1), .int 5], .lst [.int (-1), .int 0, .int 1, .int 1, .int 0, .int (-2), .int 4], .lst [.int 1, .int (-1), .int (-1), .int 1, .int 1, .int (-1), .int 1]]) (m := 7) (u := .lst [.int 1, .int 1, .int 1, .int 1, .int 1, .int 1, .int 1]) (v := .lst [.int 1, .int 1, .int 1, .int 1, .int 1, .int 1, .int 1]) rfl rfl rfl (by simp) (by rw [hi]; rfl) (by rw [hj]; rfl))]
    exact yes (eF5_0_0 v0 v2 v3 v6 v7 v9 v11 v12 v13 v14 v15 v16 v17 v18 v19 _)
  · rw [one (l21 l hl (L := [.lst [.int 1, .int 1, .int 1, .int 1, .int 1, .int 1, .int 1], .lst [.int (-1), .int 0, .int (-1), .int 1, .int 0, .int 2, .int 4], .lst [.int 0, .int (-1), .int 1, .int (-1), .int 1, .int 1, .int 5], .lst [.int 1, .int 0, .int 0, .int 0, .int (-2), .int 0, .int 6], .lst [.int 0, .int 1, .int (-1), .int (-1), .int 1, .int (-1), .int 5], .lst [.int (-1), .int 0, .int 1, .int 1, .int 0, .int (-2), .int 4], .lst [.int 1, .int (-1), .int (-1), .int 1, .int 1, .int (-1), .int 1]]) (m := 7) (u := .lst [.int 1, .int 1, .int 1, .int 1, .int 1, .int 1, .int 1]) (v := .lst [.int (-1), .int 0, .int (-1), .int 1, .int 0, .int 2, .int 4]) rfl rfl rfl (by simp) (by rw [hi]; rfl) (by rw [hj]; rfl))]
    exact yes (eF5_0_1 v0 v2 v3 v6 v7 v9 v11 v12 v13 v14 v15 v16 v17 v18 v19 _)
  · rw [one (l21 l hl (L := [.lst [.int 1, .int 1, .int 1, .int 1, .int 1, .int 1, .int 1], .lst [.int (-1), .int 0, .int (-1), .int 1, .int 0, .int 2, .int 4], .lst [.int 0, .int (-1), .int 1, .int (-1), .int 1, .int 1, .int 5], .lst [.int 1, .int 0, .int 0, .int 0, .int (-2), .int 0, .int 6], .lst [.int 0, .int 1, .int (-1), .int (-1), .int 1, .int (-1), .int 5], .lst [.int (-1), .int 0, .int 1, .int 1, .int 0, .int (-2), .int 4], .lst [.int 1, .int (-1), .int (-1), .int 1, .int 1, .int (-1), .int 1]]) (m := 7) (u := .lst [.int 1, .int 1, .int 1, .int 1, .int 1, .int 1, .int 1]) (v := .lst [.int 0, .int (-1), .int 1, .int (-1), .int 1, .int 1, .int 5]) rfl rfl rfl (by simp) (by rw [hi]; rfl) (by rw [hj]; rfl))]
    exact yes (eF5_0_2 v0 v2 v3 v6 v7 v9 v11 v12 v13 v14 v15 v16 v17 v18 v19 _)
  · rw [one (l21 l hl (L := [.lst [.int 1, .int 1, .int 1, .int 1, .int 1, .int 1, .int 1], .lst [.int (-1), .int 0, .int (-1), .int 1, .int 0, .int 2, .int 4], .lst [.int 0, .int (-1), .int 1, .int (-1), .int 1, .int 1, .int 5], .lst [.int 1, .int 0, .int 0, .int 0, .int (-2), .int 0, .int 6], .lst [.int 0, .int 1, .int (-1), .int (-1), .int 1, .int (-1), .int 5], .lst [.int (-1), .int 0, .int 1, .int 1, .int 0, .int (-2), .int 4], .lst [.int 1, .int (-1), .int (-1), .int 1, .int 1, .int (-1), .int 1]]) (m := 7) (u := .lst [.int 1, .int 1, .int 1, .int 1, .int 1, .int 1, .int 1]) (v := .lst [.int 1, .int 0, .int 0, .int 0, .int (-2), .int 0, .int 6]) rfl rfl rfl (by simp) (by rw [hi]; rfl) (by rw [hj]; rfl))]
    exact yes (eF5_0_3 v0 v2 v3 v6 v7 v9 v11 v12 v13 v14 v15 v16 v17 v18 v19 _)
  · rw [one (l21 l hl (L := [.lst [.int 1, .int 1, .int 1, .int 1, .int 1, .int 1, .int 1], .lst [.int (-1), .int 0, .int (-1), .int 1, .int 0, .int 2, .int 4], .lst [.int 0, .int (-1), .int 1, .int (-1), .int 1, .int 1, .int 5], .lst [.int 1, .int 0, .int 0, .int 0, .int (-2), .int 0, .int 6], .lst [.int 0, .int 1, .int (-1), .int (-1), .int 1, .int (-1), .int 5], .lst [.int (-1), .int 0, .int 1, .int 1, .int 0, .int (-2), .int 4], .lst [.int 1, .int (-1), .int (-1), .int 1, .int 1, .int (-1), .int 1]]) (m := 7) (u := .lst [.int 1, .int 1, .int 1, .int 1, .int 1, .int 1, .int 1]) (v := .lst [.int 0, .int 1, .int (-1), .int (-1), .int 1, .int (-1), .int 5]) rfl rfl rfl (by simp) (by rw [hi]; rfl) (by rw [hj]; rfl))]
    exact yes (eF5_0_4 v0 v2 v3 v6 v7 v9 v11 v12 v13 v14 v15 v16 v17 v18 v19 _)
  · rw [one (l21 l hl (L := [.lst [.int 1, .int 1, .int 1, .int 1, .int 1, .int 1, .int 1], .lst [.int (-1), .int 0, .int (-1), .int 1, .int 0, .int 2, .int 4], .lst [.int 0, .int (-1), .int 1, .int (-1), .int 1, .int 1, .int 5], .lst [.int 1, .int 0, .int 0, .int 0, .int (-2), .int 0, .int 6], .lst [.int 0, .int 1, .int (-1), .int (-1), .int 1, .int (-1), .int 5], .lst [.int (-1), .int 0, .int 1, .int 1, .int 0, .int (-2), .int 4], .lst [.int 1, .int (-1), .int (-1), .int 1, .int 1, .int (-1), .int 1]]) (m := 7) (u := .lst [.int 1, .int 1, .int 1, .int 1, .int 1, .int 1, .int 1]) (v := .lst [.int (-1), .int 0, .int 1, .int 1, .int 0, .int (-2), .int 4]) rfl rfl rfl (by simp) (by rw [hi]; rfl) (by rw [hj]; rfl))]
    exact yes (eF5_0_5 v0 v2 v3 v6 v7 v9 v11 v12 v13 v14 v15 v16 v17 v18 v19 _)
  · rw [one (l21 l hl (L := [.lst [.int 1, .int 1, .int 1, .int 1, .int 1, .int 1, .int 1], .lst [.int (-1), .int 0, .int (-1), .int 1, .int 0, .int 2, .int 4], .lst [.int 0, .int (-1), .int 1, .int (-1), .int 1, .int 1, .int 5], .lst [.int 1, .int 0, .int 0, .int 0, .int (-2), .int 0, .int 6], .lst [.int 0, .int 1, .int (-1), .int (-1), .int 1, .int (-1), .int 5], .lst [.int (-1), .int 0, .int 1, .int 1, .int 0, .int (-2), .int 4], .lst [.int 1, .int (-1), .int (-1), .int 1, .int 1, .int (-1), .int 1]]) (m := 7) (u := .lst [.int 1, .int 1, .int 1, .int 1, .int 1, .int 1, .int 1]) (v := .lst [.int 1, .int (-1), .int (-1), .int 1, .int 1, .int (-1), .int 1]) rfl rfl rfl (by simp) (by rw [hi]; rfl) (by rw [hj]; rfl))]
    exact yes (eF5_0_6 v0 v2 v3 v6 v7 v9 v11 v12 v13 v14 v15 v16 v17 v18 v19 _)
  · rw [one (l21 l hl (L := [.lst [.int 1, .int 1, .int 1, .int 1, .int 1, .int 1, .int 1], .lst [.int (-1), .int 0, .int (-1), .int 1, .int 0, .int 2, .int 4], .lst [.int 0, .int (-1), .int 1, .int (-1), .int 1, .int 1, .int 5], .lst [.int 1, .int 0, .int 0, .int 0, .int (-2), .int 0, .int 6], .lst [.int 0, .int 1, .int (-1), .int (-1), .int 1, .int (-1), .int 5], .lst [.int (-1), .int 0, .int 1, .int 1, .int 0, .int (-2), .int 4], .lst [.int 1, .int (-1), .int (-1), .int 1, .int 1, .int (-1), .int 1]]) (m := 7) (u := .lst [.int (-1), .int 0, .int (-1), .int 1, .int 0, .int 2, .int 4]) (v := .lst [.int 1, .int 1, .int 1, .int 1, .int 1, .int 1, .int 1]) rfl rfl rfl (by simp) (by rw [hi]; rfl) (by rw [hj]; rfl))]
    exact yes (eF5_1_0 v0 v2 v3 v6 v7 v9 v11 v12 v13 v14 v15 v16 v17 v18 v19 _)
  · rw [one (l21 l hl (L := [.lst [.int 1, .int 1, .int 1, .int 1, .int 1, .int 1, .int 1], .lst [.int (-1), .int 0, .int (-1), .int 1, .int 0, .int 2, .int 4], .lst [.int 0, .int (-1), .int 1, .int (-1), .int 1, .int 1, .int 5], .lst [.int 1, .int 0, .int 0, .int 0, .int (-2), .int 0, .int 6], .lst [.int 0, .int 1, .int (-1), .int (-1), .int 1, .int (-1), .int 5], .lst [.int (-1), .int 0, .int 1, .int 1, .int 0, .int (-2), .int 4], .lst [.int 1, .int (-1), .int (-1), .int 1, .int 1, .int (-1), .int 1]]) (m := 7) (u := .lst [.int (-1), .int 0, .int (-1), .int 1, .int 0, .int 2, .int 4]) (v := .lst [.int (-1), .int 0, .int (-1), .int 1, .int 0, .int 2, .int 4]) rfl rfl rfl (by simp) (by rw [hi]; rfl) (by rw [hj]; rfl))]
    exact yes (eF5_1_1 v0 v2 v3 v6 v7 v9 v11 v12 v13 v14 v15 v16 v17 v18 v19 _)
  · rw [one (l21 l hl (L := [.lst [.int 1, .int 1, .int 1, .int 1, .int 1, .int 1, .int 1], .lst [.int (-1), .int 0, .int (-1), .int 1, .int 0, .int 2, .int 4], .lst [.int 0, .int (-1), .int 1, .int (-1), .int 1, .int 1, .int 5], .lst [.int 1, .int 0, .int 0, .int 0, .int (-2), .int 0, .int 6], .lst [.int 0, .int 1, .int (-1), .int (-1), .int 1, .int (-1), .int 5], .lst [.int (-1), .int 0, .int 1, .int 1, .int 0, .int (-2), .int 4], .lst [.int 1, .int (-1), .int (-1), .int 1, .int 1, .int (-1), .int 1]]) (m := 7) (u := .lst [.int (-1), .int 0, .int (-1), .int 1, .int 0, .int 2, .int 4]) (v := .lst [.int 0, .int (-1), .int 1, .int (-1), .int 1, .int 1, .int 5]) rfl rfl rfl (by simp) (by rw [hi]; rfl) (by rw [hj]; rfl))]
    exact yes (eF5_1_2 v0 v2 v3 v6 v7 v9 v11 v12 v13 v14 v15 v16 v17 v18 v19 _)
  · rw [one (l21 l hl (L := [.lst [.int 1, .int 1, .int 1, .int 1, .int 1, .int 1, .int 1], .lst [.int (-1), .int 0, .int (-1), .int 1, .int 0, .int 2, .int 4], .lst [.int 0, .int (-1), .int 1, .int (-1), .int 1, .int 1, .int 5], .lst [.int 1, .int 0, .int 0, .int 0, .int (-2), .int 0, .int 6], .lst [.int 0, .int 1, .int (-1), .int (-1), .int 1, .int (-1), .int 5], .lst [.int (-1), .int 0, .int 1, .int 1, .int 0, .int (-2), .int 4], .lst [.int 1, .int (-1), .int (-1), .int 1, .int 1, .int (-1), .int 1]]) (m := 7) (u := .lst [.int (-1), .int 0, .int (-1), .int 1, .int 0, .int 2, .int 4]) (v := .lst [.int 1, .int 0, .int 0, .int 0, .int (-2), .int 0, .int 6]) rfl rfl rfl (by simp) (by rw [hi]; rfl) (by rw [hj]; rfl))]
    exact yes (eF5_1_3 v0 v2 v3 v6 v7 v9 v11 v12 v13 v14 v15 v16 v17 v18 v19 _)
  · rw [one (l21 l hl (L := [.lst [.int 1, .int 1, .int 1, .int 1, .int 1, .int 1, .int 1], .lst [.int (-1), .int 0, .int (-1), .int 1, .int 0, .int 2, .int 4], .lst [.int 0, .int (-1), .int 1, .int (-1), .int 1, .int 1, .int 5], .lst [.int 1, .int 0, .int 0, .int 0, .int (-2), .int 0, .int 6], .lst [.int 0, .int 1, .int (-1), .int (-1), .int 1, .int (-1), .int 5], .lst [.int (-1), .int 0, .int 1, .int 1, .int 0, .int (-2), .int 4], .lst [.int 1, .int (-1), .int (-1), .int 1, .int 1, .int (-1), .int 1]]) (m := 7) (u := .lst [.int (-1), .int 0, .int (-1), .int 1, .int 0, .int 2, .int 4]) (v := .lst [.int 0, .int 1, .int (-1), .int (-1), .int 1, .int (-1), .int 5]) rfl rfl rfl (by simp) (by rw [hi]; rfl) (by rw [hj]; rfl))]
    exact yes (eF5_1_4 v0 v2 v3 v6 v7 v9 v11 v12 v13 v14 v15 v16 v17 v18 v19 _)
  · rw [one (l21 l hl (L := [.lst [.int 1, .int 1, .int 1, .int 1, .int 1, .int 1, .int 1], .lst [.int (-1), .int 0, .int (-1), .int 1, .int 0, .int 2, .int 4], .lst [.int 0, .int (-1), .int 1, .int (-1), .int 1, .int 1, .int 5], .lst [.int 1, .int 0, .int 0, .int 0, .int (-2), .int 0, .int 6], .lst [.int 0, .int 1, .int (-1), .int (-1), .int 1, .int (-1), .int 5], .lst [.int (-1), .int 0, .int 1, .int 1, .int 0, .int (-2), .int 4], .lst [.int 1, .int (-1), .int (-1), .int 1, .int 1, .int (-1), .int 1]]) (m := 7) (u := .lst [.int (-1), .int 0, .int (-1), .int 1, .int 0, .int 2, .int 4]) (v := .lst [.int (-1), .int 0, .int 1, .int 1, .int 0, .int (-2), .int 4]) rfl rfl rfl (by simp) (by rw [hi]; rfl) (by rw [hj]; rfl))]
    exact yes (eF5_1_5 v0 v2 v3 v6 v7 v9 v11 v12 v13 v14 v15 v16 v17 v18 v19 _)
  · rw [one (l21 l hl (L := [.lst [.int 1, .int 1, .int 1, .int 1, .int 1, .int 1, .int 1], .lst [.int (-1), .int 0, .int (-1), .int 1, .int 0, .int 2, .int 4], .lst [.int 0, .int (-1), .int 1, .int (-1), .int 1, .int 1, .int 5], .lst [.int 1, .int 0, .int 0, .int 0, .int (-2), .int 0, .int 6], .lst [.int 0, .int 1, .int (-1), .int (-1), .int 1, .int (-1), .int 5], .lst [.int (-1), .int 0, .int 1, .int 1, .int 0, .int (-2), .int 4], .lst [.int 1, .int (-1), .int (-1), .int 1, .int 1, .int (-1), .int 1]]) (m := 7) (u := .lst [.int (-1), .int 0, .int (-1), .int 1, .int 0, .int 2, .int 4]) (v := .lst [.int 1, .int (-1), .int (-1), .int 1, .int 1, .int (-1), .int 1]) rfl rfl rfl (by simp) (by rw [hi]; rfl) (by rw [hj]; rfl))]
    exact yes (eF5_1_6 v0 v2 v3 v6 v7 v9 v11 v12 v13 v14 v15 v16 v17 v18 v19 _)
  · rw [one (l21 l hl (L := [.lst [.int 1, .int 1, .int 1, .int 1, .int 1, .int 1, .int 1], .lst [.int (-1), .int 0, .int (-1), .int 1, .int 0, .int 2, .int 4], .lst [.int 0, .int (-1), .int 1, .int (-1), .int 1, .int 1, .int 5], .lst [.int 1, .int 0, .int 0, .int 0, .int (-2), .int 0, .int 6], .lst [.int 0, .int 1, .int (-1), .int (-1), .int 1, .int (-1), .int 5], .lst [.int (-1), .int 0, .int 1, .int 1, .int 0, .int (-2), .int 4], .lst [.int 1, .int (-1), .int (-1), .int 1, .int 1, .int (-1), .int 1]]) (m := 7) (u := .lst [.int 0, .int (-1), .int 1, .int (-1), .int 1, .int 1, .int 5]) (v := .lst [.int 1, .int 1, .int 1, .int 1, .int 1, .int 1, .int 1]) rfl rfl rfl (by simp) (by rw [hi]; rfl) (by rw [hj]; rfl))]
    exact yes (eF5_2_0 v0 v2 v3 v6 v7 v9 v11 v12 v13 v14 v15 v16 v17 v18 v19 _)
  · rw [one (l21 l hl (L := [.lst [.int 1, .int 1, .int 1, .int 1, .int 1, .int 1, .int 1], .lst [.int (-1), .int 0, .int (-1), .int 1, .int 0, .int 2, .int 4], .lst [.int 0, .int (-1), .int 1, .int (-1), .int 1, .int 1, .int 5], .lst [.int 1, .int 0, .int 0, .int 0, .int (-2), .int 0, .int 6], .lst [.int 0, .int 1, .int (-1), .int (-1), .int 1, .int (-1), .int 5], .lst [.int (-1), .int 0, .int 1, .int 1, .int 0, .int (-2), .int 4], .lst [.int 1, .int (-1), .int (-1), .int 1, .int 1, .int (-1), .int 1]]) (m := 7) (u := .lst [.int 0, .int (-1), .int 1, .int (-1), .int 1, .int 1, .int 5]) (v := .lst [.int (-1), .int 0, .int (-1), .int 1, .int 0, .int 2, .int 4]) rfl rfl rfl (by simp) (by rw [hi]; rfl) (by rw [hj]; rfl))]
    exact yes (eF5_2_1 v0 v2 v3 v6 v7 v9 v11 v12 v13 v14 v15 v16 v17 v18 v19 _)
  · rw [one (l21 l hl (L := [.lst [.int 1, .int 1, .int 1, .int 1, .int 1, .int 1, .int 1], .lst [.int (-1), .int 0, .int (-1), .int 1, .int 0, .int 2, .int 4], .lst [.int 0, .int (-1), .int 1, .int (-1), .int 1, .int 1, .int 5], .lst [.int 1, .int 0, .int 0, .int 0, .int (-2), .int 0, .int 6], .lst [.int 0, .int 1, .int (-1), .int (-1), .int 1, .int (-1), .int 5], .lst [.int (-1), .int 0, .int 1, .int 1, .int 0, .int (-2), .int 4], .lst [.int 1, .int (-1), .int (-1), .int 1, .int 1, .int (-1), .int 1]]) (m := 7) (u := .lst [.int 0, .int (-1), .int 1, .int (-1), .int 1, .int 1, .int 5]) (v := .lst [.int 0, .int (-1), .int 1, .int (-1), .int 1, .int 1, .int 5]) rfl rfl rfl (by simp) (by rw [hi]; rfl) (by rw [hj]; rfl))]
    exact yes (eF5_2_2 v0 v2 v3 v6 v7 v9 v11 v12 v13 v14 v15 v16 v17 v18 v19 _)
  · rw [one (l21 l hl (L := [.lst [.int 1, .int 1, .int 1, .int 1, .int 1, .int 1, .int 1], .lst [.int (-1), .int 0, .int (-1), .int 1, .int 0, .int 2, .int 4], .lst [.int 0, .int (-1), .int 1, .int (-1), .int 1, .int 1, .int 5], .lst [.int 1, .int 0, .int 0, .int 0, .int (-2), .int 0, .int 6], .lst [.int 0, .int 1, .int (-1), .int (-1), .int 1, .int (-1), .int 5], .lst [.int (-1), .int 0, .int 1, .int 1, .int 0, .int (-2), .int 4], .lst [.int 1, .int (-1), .int (-1), .int 1, .int 1, .int (-1), .int 1]]) (m := 7) (u := .lst [.int 0, .int (-1), .int 1, .int (-1), .int 1, .int 1, .int 5]) (v := .lst [.int 1, .int 0, .int 0, .int 0, .int (-2), .int 0, .int 6]) rfl rfl rfl (by simp) (by rw [hi]; rfl) (by rw [hj]; rfl))]
    exact yes (eF5_2_3 v0 v2 v3 v6 v7 v9 v11 v12 v13 v14 v15 v16 v17 v18 v19 _)
  · rw [one (l21 l hl (L := [.lst [.int 1, .int 1, .int 1, .int 1, .int 1, .int 1, .int 1], .lst [.int (-1), .int 0, .int (-1), .int 1, .int 0, .int 2, .int 4], .lst [.int 0, .int (-1), .int 1, .int (-1), .int 1, .int 1, .int 5], .lst [.int 1, .int 0, .int 0, .int 0, .int (-2), .int 0, .int 6], .lst [.int 0, .int 1, .int (-1), .int (-1), .int 1, .int (-1), .int 5], .lst [.int (-1), .int 0, .int 1, .int 1, .int 0, .int (-2), .int 4], .lst [.int 1, .int (-1), .int (-1), .int 1, .int 1, .int (-1), .int 1]]) (m := 7) (u := .lst [.int 0, .int (-1), .int 1, .int (-1), .int 1, .int 1, .int 5]) (v := .lst [.int 0, .int 1, .int (-1), .int (-1), .int 1, .int (-1), .int 5]) rfl rfl rfl (by simp) (by rw [hi]; rfl) (by rw [hj]; rfl))]
    exact yes (eF5_2_4 v0 v2 v3 v6 v7 v9 v11 v12 v13 v14 v15 v16 v17 v18 v19 _)
  · rw [one (l21 l hl (L := [.lst [.int 1, .int 1, .int 1, .int 1, .int 1, .int 1, .int 1], .lst [.int (-1), .int 0, .int (-1), .int 1, .int 0, .int 2, .int 4], .lst [.int 0, .int (-1), .int 1, .int (-1), .int 1, .int 1, .int 5], .lst [.int 1, .int 0, .int 0, .int 0, .int (-2), .int 0, .int 6], .lst [.int 0, .int 1, .int (-1), .int (-1), .int 1, .int (-1), .int 5], .lst [.int (-1), .int 0, .int 1, .int 1, .int 0, .int (-2), .int 4], .lst [.int 1, .int (-1), .int (-1), .int 1, .int 1, .int (-1), .int 1]]) (m := 7) (u := .lst [.int 0, .int (-1), .int 1, .int (-1), .int 1, .int 1, .int 5]) (v := .lst [.int (-1), .int 0, .int 1, .int 1, .int 0, .int (-2), .int 4]) rfl rfl rfl (by simp) (by rw [hi]; rfl) (by rw [hj]; rfl))]
    exact yes (eF5_2_5 v0 v2 v3 v6 v7 v9 v11 v12 v13 v14 v15 v16 v17 v18 v19 _)
  · rw [one (l21 l hl (L := [.lst [.int 1, .int 1, .int 1, .int 1, .int 1, .int 1, .int 1], .lst [.int (-1), .int 0, .int (-1), .int 1, .int 0, .int 2, .int 4], .lst [.int 0, .int (-1), .int 1, .int (-1), .int 1, .int 1, .int 5], .lst [.int 1, .int 0, .int 0, .int 0, .int (-2), .int 0, .int 6], .lst [.int 0, .int 1, .int (-1), .int (-1), .int 1, .int (-1), .int 5], .lst [.int (-1), .int 0, .int 1, .int 1, .int 0, .int (-2), .int 4], .lst [.int 1, .int (-1), .int (-1), .int 1, .int 1, .int (-1), .int 1]]) (m := 7) (u := .lst [.int 0, .int (-1), .int 1, .int (-1), .int 1, .int 1, .int 5]) (v := .lst [.int 1, .int (-1), .int (-1), .int 1, .int 1, .int (-1), .int 1]) rfl rfl rfl (by simp) (by rw [hi]; rfl) (by rw [hj]; rfl))]
    exact yes (eF5_2_6 v0 v2 v3 v6 v7 v9 v11 v12 v13 v14 v15 v16 v17 v18 v19 _)
  · rw [one (l21 l hl (L := [.lst [.int 1, .int 1, .int 1, .int 1, .int 1, .int 1, .int 1], .lst [.int (-1), .int 0, .int (-1), .int 1, .int 0, .int 2, .int 4], .lst [.int 0, .int (-1), .int 1, .int (-1), .int 1, .int 1, .int 5], .lst [.int 1, .int 0, .int 0, .int 0, .int (-2), .int 0, .int 6], .lst [.int 0, .int 1, .int (-1), .int (-1), .int 1, .int (-1), .int 5], .lst [.int (-1), .int 0, .int 1, .int 1, .int 0, .int (-2), .int 4], .lst [.int 1, .int (-1), .int (-1), .int 1, .int 1, .int (-1), .int 1]]) (m := 7) (u := .lst [.int 1, .int 0, .int 0, .int 0, .int (-2), .int 0, .int 6]) (v := .lst [.int 1, .int 1, .int 1, .int 1, .int 1, .int 1, .int 1]) rfl rfl rfl (by simp) (by rw [hi]; rfl) (by rw [hj]; rfl))]
    exact yes (eF5_3_0 v0 v2 v3 v6 v7 v9 v11 v12 v13 v14 v15 v16 v17 v18 v19 _)
  · rw [one (l21 l hl (L := [.lst [.int 1, .int 1, .int 1, .int 1, .int 1, .int 1, .int 1], .lst [.int (-1), .int 0, .int (-1), .int 1, .int 0, .int 2, .int 4], .lst [.int 0, .int (-1), .int 1, .int (-1), .int 1, .int 1, .int 5], .lst [.int 1, .int 0, .int 0, .int 0, .int (-2), .int 0, .int 6], .lst [.int 0, .int 1, .int (-1), .int (-1), .int 1, .int (-1), .int 5], .lst [.int (-1), .int 0, .int 1, .int 1, .int 0, .int (-2), .int 4], .lst [.int 1, .int (-1), .int (-1), .int 1, .int 1, .int (-1), .int 1]]) (m := 7) (u := .lst [.int 1, .int 0, .int 0, .int 0, .int (-2), .int 0, .int 6]) (v := .lst [.int (-1), .int 0, .int (-1), .int 1, .int 0, .int 2, .int 4]) rfl rfl rfl (by simp) (by rw [hi]; rfl) (by rw [hj]; rfl))]
    exact yes (eF5_3_1 v0 v2 v3 v6 v7 v9 v11 v12 v13 v14 v15 v16 v17 v18 v19 _)
  · rw [one (l21 l hl (L := [.lst [.int 1, .int 1, .int 1, .int 1, .int 1, .int 1, .int 1], .lst [.int (-1), .int 0, .int (-1), .int 1, .int 0, .int 2, .int 4], .lst [.int 0, .int (-1), .int 1, .int (-1), .int 1, .int 1, .int 5], .lst [.int 1, .int 0, .int 0, .int 0, .int (-2), .int 0, .int 6], .lst [.int 0, .int 1, .int (-1), .int (-1), .int 1, .int (-1), .int 5], .lst [.int (-1), .int 0, .int 1, .int 1, .int 0, .int (-2), .int 4], .lst [.int 1, .int (-1), .int (-1), .int 1, .int 1, .int (-1), .int 1]]) (m := 7) (u := .lst [.int 1, .int 0, .int 0, .int 0, .int (-2), .int 0, .int 6]) (v := .lst [.int 0, .int (-1), .int 1, .int (-1), .int 1, .int 1, .int 5]) rfl rfl rfl (by simp) (by rw [hi]; rfl) (by rw [hj]; rfl))]
    exact yes (eF5_3_2 v0 v2 v3 v6 v7 v9 v11 v12 v13 v14 v15 v16 v17 v18 v19 _)
  · rw [one (l21 l hl (L := [.lst [.int 1, .int 1, .int 1, .int 1, .int 1, .int 1, .int 1], .lst [.int (-1), .int 0, .int (-1), .int 1, .int 0, .int 2, .int 4], .lst [.int 0, .int (-1), .int 1, .int (-1), .int 1, .int 1, .int 5], .lst [.int 1, .int 0, .int 0, .int 0, .int (-2), .int 0, .int 6], .lst [.int 0, .int 1, .int (-1), .int (-1), .int 1, .int (-1), .int 5], .lst [.int (-1), .int 0, .int 1, .int 1, .int 0, .int (-2), .int 4], .lst [.int 1, .int (-1), .int (-1), .int 1, .int 1, .int (-1), .int 1]]) (m := 7) (u := .lst [.int 1, .int 0, .int 0, .int 0, .int (-2), .int 0, .int 6]) (v := .lst [.int 1, .int 0, .int 0, .int 0, .int (-2), .int 0, .int 6]) rfl rfl rfl (by simp) (by rw [hi]; rfl) (by rw [hj]; rfl))]
    exact yes (eF5_3_3 v0 v2 v3 v6 v7 v9 v11 v12 v13 v14 v15 v16 v17 v18 v19 _)
  · rw [one (l21 l hl (L := [.lst [.int 1, .int 1, .int 1, .int 1, .int 1, .int 1, .int 1], .lst [.int (-1), .int 0, .int (-1), .int 1, .int 0, .int 2, .int 4], .lst [.int 0, .int (-1), .int 1, .int (-1), .int 1, .int 1, .int 5], .lst [.int 1, .int 0, .int 0, .int 0, .int (-2), .int 0, .int 6], .lst [.int 0, .int 1, .int (-1), .int (-1), .int 1, .int (-1), .int 5], .lst [.int (-1), .int 0, .int 1, .int 1, .int 0, .int (-2), .int 4], .lst [.int 1, .int (-1), .int (-1), .int 1, .int 1, .int (-1), .int 1]]) (m := 7) (u := .lst [.int 1, .int 0, .int 0, .int 0, .int (-2), .int 0, .int 6]) (v := .lst [.int 0, .int 1, .int (-1), .int (-1), .int 1, .int (-1), .int 5]) rfl rfl rfl (by simp) (by rw [hi]; rfl) (by rw [hj]; rfl))]
    exact yes (eF5_3_4 v0 v2 v3 v6 v7 v9 v11 v12 v13 v14 v15 v16 v17 v18 v19 _)
  · rw [one (l21 l hl (L := [.lst [.int 1, .int 1, .int 1, .int 1, .int 1, .int 1, .int 1], .lst [.int (-1), .int 0, .int (-1), .int 1, .int 0, .int 2, .int 4], .lst [.int 0, .int (-1), .int 1, .int (-1), .int 1, .int 1, .int 5], .lst [.int 1, .int 0, .int 0, .int 0, .int (-2), .int 0, .int 6], .lst [.int 0, .int 1, .int (-1), .int (-1), .int 1, .int (-1), .int 5], .lst [.int (-1), .int 0, .int 1, .int 1, .int 0, .int (-2), .int 4], .lst [.int 1, .int (-1), .int (-1), .int 1, .int 1, .int (-1), .int 1]]) (m := 7) (u := .lst [.int 1, .int 0, .int 0, .int 0, .int (-2), .int 0, .int 6]) (v := .lst [.int (-1), .int 0, .int 1, .int 1, .int 0, .int (-2), .int 4]) rfl rfl rfl (by simp) (by rw [hi]; rfl) (by rw [hj]; rfl))]
    exact yes (eF5_3_5 v0 v2 v3 v6 v7 v9 v11 v12 v13 v14 v15 v16 v17 v18 v19 _)
  · rw [one (l21 l hl (L := [.lst [.int 1, .int 1, .int 1, .int 1, .int 1, .int 1, .int 1], .lst [.int (-1), .int 0, .int (-1), .int 1, .int 0, .int 2, .int 4], .lst [.int 0, .int (-1), .int 1, .int (-1), .int 1, .int 1, .int 5], .lst [.int 1, .int 0, .int 0, .int 0, .int (-2), .int 0, .int 6], .lst [.int 0, .int 1, .int (-1), .int (-1), .int 1, .int (-1), .int 5], .lst [.int (-1), .int 0, .int 1, .int 1, .int 0, .int (-2), .int 4], .lst [.int 1, .int (-1), .int (-1), .int 1, .int 1, .int (-1), .int 1]]) (m := 7) (u := .lst [.int 1, .int 0, .int 0, .int 0, .int (-2), .int 0, .int 6]) (v := .lst [.int 1, .int (-1), .int (-1), .int 1, .int 1, .int (-1), .int 1]) rfl rfl rfl (by simp) (by rw [hi]; rfl) (by rw [hj]; rfl))]
    exact yes (eF5_3_6 v0 v2 v3 v6 v7 v9 v11 v12 v13 v14 v15 v16 v17 v18 v19 _)
  · rw [one (l21 l hl (L := [.lst [.int 1, .int 1, .int 1, .int 1, .int 1, .int 1, .int 1], .lst [.int (-1), .int 0, .int (-1), .int 1, .int 0, .int 2, .int 4], .lst [.int 0, .int (-1), .int 1, .int (-1), .int 1, .int 1, .int 5], .lst [.int 1, .int 0, .int 0, .int 0, .int (-2), .int 0, .int 6], .lst [.int 0, .int 1, .int (-1), .int (-1), .int 1, .int (-1), .int 5], .lst [.int (-1), .int 0, .int 1, .int 1, .int 0, .int (-2), .int 4], .lst [.int 1, .int (-1), .int (-1), .int 1, .int 1, .int (-1), .int 1]]) (m := 7) (u := .lst [.int 0, .int 1, .int (-1), .int (-1), .int 1, .int (-1), .int 5]) (v := .lst [.int 1, .int 1, .int 1, .int 1, .int 1, .int 1, .int 1]) rfl rfl rfl (by simp) (by rw [hi]; rfl) (by rw [hj]; rfl))]
    exact yes (eF5_4_0 v0 v2 v3 v6 v7 v9 v11 v12 v13 v14 v15 v16 v17 v18 v19 _)
  · rw [one (l21 l hl (L := [.lst [.int 1, .int 1, .int 1, .int 1, .int 1, .int 1, .int 1], .lst [.int (-1), .int 0, .int (-1), .int 1, .int 0, .int 2, .int 4], .lst [.int 0, .int (-1), .int 1, .int (-1), .int 1, .int 1, .int 5], .lst [.int 1, .int 0, .int 0, .int 0, .int (-2), .int 0, .int 6], .lst [.int 0, .int 1, .int (-1), .int (-1), .int 1, .int (-1), .int 5], .lst [.int (-1), .int 0, .int 1, .int 1, .int 0, .int (-2), .int 4], .lst [.int 1, .int (-1), .int (-1), .int 1, .int 1, .int (-1), .int 1]]) (m := 7) (u := .lst [.int 0, .int 1, .int (-1), .int (-1), .int 1, .int (-1), .int 5]) (v := .lst [.int (-1), .int 0, .int (-1), .int 1, .int 0, .int 2, .int 4]) rfl rfl rfl (by simp) (by rw [hi]; rfl) (by rw [hj]; rfl))]
    exact yes (eF5_4_1 v0 v2 v3 v6 v7 v9 v11 v12 v13 v14 v15 v16 v17 v18 v19 _)
  · rw [one (l21 l hl (L := [.lst [.int 1, .int 1, .int 1, .int 1, .int 1, .int 1, .int 1], .lst [.int (-1), .int 0, .int (-1), .int 1, .int 0, .int 2, .int 4], .lst [.int 0, .int (-1), .int 1, .int (-1), .int 1, .int 1, .int 5], .lst [.int 1, .int 0, .int 0, .int 0, .int (-2), .int 0, .int 6], .lst [.int 0, .int 1, .int (-1), .int (-1), .int 1, .int (-1), .int 5], .lst [.int (-1), .int 0, .int 1, .int 1, .int 0, .int (-2), .int 4], .lst [.int 1, .int (-1), .int (-1), .int 1, .int 1, .int (-1), .int 1]]) (m := 7) (u := .lst [.int 0, .int 1, .int (-1), .int (-1), .int 1, .int (-1), .int 5]) (v := .lst [.int 0, .int (-1), .int 1, .int (-1), .int 1, .int 1, .int 5]) rfl rfl rfl (by simp) (by rw [hi]; rfl) (by rw [hj]; rfl))]
    exact yes (eF5_4_2 v0 v2 v3 v6 v7 v9 v11 v12 v13 v14 v15 v16 v17 v18 v19 _)
  · rw [one (l21 l hl (L := [.lst [.int 1, .int 1, .int 1, .int 1, .int 1, .int 1, .int 1], .lst [.int (-1), .int 0, .int (-1), .int 1, .int 0, .int 2, .int 4], .lst [.int 0, .int (-1), .int 1, .int (-1), .int 1, .int 1, .int 5], .lst [.int 1, .int 0, .int 0, .int 0, .int (-2), .int 0, .int 6], .lst [.int 0, .int 1, .int (-1), .int (-1), .int 1, .int (-1), .int 5], .lst [.int (-1), .int 0, .int 1, .int 1, .int 0, .int (-2), .int 4], .lst [.int 1, .int (-1), .int (-1), .int 1, .int 1, .int (-1), .int 1]]) (m := 7) (u := .lst [.int 0, .int 1, .int (-1), .int (-1), .int 1, .int (-1), .int 5]) (v := .lst [.int 1, .int 0, .int 0, .int 0, .int (-2), .int 0, .int 6]) rfl rfl rfl (by simp) (by rw [hi]; rfl) (by rw [hj]; rfl))]
    exact yes (eF5_4_3 v0 v2 v3 v6 v7 v9 v11 v12 v13 v14 v15 v16 v17 v18 v19 _)
  · rw [one (l21 l hl (L := [.lst [.int 1, .int 1, .int 1, .int 1, .int 1, .int 1, .int 1], .lst [.int (-1), .int 0, .int (-1), .int 1, .int 0, .int 2, .int 4], .lst [.int 0, .int (-1), .int 1, .int (-1), .int 1, .int 1, .int 5], .lst [.int 1, .int 0, .int 0, .int 0, .int (-2), .int 0, .int 6], .lst [.int 0, .int 1, .int (-1), .int (-1), .int 1, .int (-1), .int 5], .lst [.int (-1), .int 0, .int 1, .int 1, .int 0, .int (-2), .int 4], .lst [.int 1, .int (-1), .int (-1), .int 1, .int 1, .int (-1), .int 1]]) (m := 7) (u := .lst [.int 0, .int 1, .int (-1), .int (-1), .int 1, .int (-1), .int 5]) (v := .lst [.int 0, .int 1, .int (-1), .int (-1), .int 1, .int (-1), .int 5]) rfl rfl rfl (by simp) (by rw [hi]; rfl) (by rw [hj]; rfl))]
    exact yes (eF5_4_4 v0 v2 v3 v6 v7 v9 v11 v12 v13 v14 v15 v16 v17 v18 v19 _)
  · rw [one (l21 l hl (L := [.lst [.int 1, .int 1, .int 1, .int 1, .int 1, .int 1, .int 1], .lst [.int (-1), .int 0, .int (-1), .int 1, .int 0, .int 2, .int 4], .lst [.int 0, .int (-1), .int 1, .int (-1), .int 1, .int 1, .int 5], .lst [.int 1, .int 0, .int 0, .int 0, .int (-2), .int 0, .int 6], .lst [.int 0, .int 1, .int (-1), .int (-1), .int 1, .int (-1), .int 5], .lst [.int (-1), .int 0, .int 1, .int 1, .int 0, .int (-2), .int 4], .lst [.int 1, .int (-1), .int (-1), .int 1, .int 1, .int (-1), .int 1]]) (m := 7) (u := .lst [.int 0, .int 1, .int (-1), .int (-1), .int 1, .int (-1), .int 5]) (v := .lst [.int (-1), .int 0, .int 1, .int 1, .int 0, .int (-2), .int 4]) rfl rfl rfl (by simp) (by rw [hi]; rfl) (by rw [hj]; rfl))]
    exact yes (eF5_4_5 v0 v2 v3 v6 v7 v9 v11 v12 v13 v14 v15 v16 v17 v18 v19 _)
  · rw [one (l21 l hl (L := [.lst [.int 1, .int 1, .int 1, .int 1, .int 1, .int 1, .int 1], .lst [.int (-1), .int 0, .int (-1), .int 1, .int 0, .int 2, .int 4], .lst [.int 0, .int (-1), .int 1, .int (-1), .int 1, .int 1, .int 5], .lst [.int 1, .int 0, .int 0, .int 0, .int (-2), .int 0, .int 6], .lst [.int 0, .int 1, .int (-1), .int (-1), .int 1, .int (-1), .int 5], .lst [.int (-1), .int 0, .int 1, .int 1, .int 0, .int (-2), .int 4], .lst [.int 1, .int (-1), .int (-1), .int 1, .int 1, .int (-1), .int 1]]) (m := 7) (u := .lst [.int 0, .int 1, .int (-1), .int (-1), .int 1, .int (-1), .int 5]) (v := .lst [.int 1, .int (-1), .int (-1), .int 1, .int 1, .int (-1), .int 1]) rfl rfl rfl (by simp) (by rw [hi]; rfl) (by rw [hj]; rfl))]
    exact yes (eF5_4_6 v0 v2 v3 v6 v7 v9 v11 v12 v13 v14 v15 v16 v17 v18 v19 _)
  · rw [one (l21 l hl (L := [.lst [.int 1, .int 1, .int 1, .int 1, .int 1, .int 1, .int 1], .lst [.int (-1), .int 0, .int (-1), .int 1, .int 0, .int 2, .int 4], .lst [.int 0, .int (-1), .int 1, .int (-1), .int 1, .int 1, .int 5], .lst [.int 1, .int 0, .int 0, .int 0, .int (-2), .int 0, .int 6], .lst [.int 0, .int 1, .int (-1), .int (-1), .int 1, .int (-1), .int 5], .lst [.int (-1), .int 0, .int 1, .int 1, .int 0, .int (-2), .int 4], .lst [.int 1, .int (-1), .int (-1), .int 1, .int 1, .int (-1), .int 1]]) (m := 7) (u := .lst [.int (-1), .int 0, .int 1, .int 1, .int 0, .int (-2), .int 4]) (v := .lst [.int 1, .int 1, .int 1, .int 1, .int 1, .int 1, .int 1]) rfl rfl rfl (by simp) (by rw [hi]; rfl) (by rw [hj]; rfl))]
    exact yes (eF5_5_0 v0 v2 v3 v6 v7 v9 v11 v12 v13 v14 v15 v16 v17 v18 v19 _)
  · rw [one (l21 l hl (L := [.lst [.int 1, .int 1, .int 1, .int 1, .int 1, .int 1, .int 1], .lst [.int (-1), .int 0, .int (-1), .int 1, .int 0, .int 2, .int 4], .lst [.int 0, .int (-1), .int 1, .int (-1), .int 1, .int 1, .int 5], .lst [.int 1, .int 0, .int 0, .int 0, .int (-2), .int 0, .int 6], .lst [.int 0, .int 1, .int (-1), .int (-1), .int 1, .int (-1), .int 5], .lst [.int (-1), .int 0, .int 1, .int 1, .int 0, .int (-2), .int 4], .lst [.int 1, .int (-1), .int (-1), .int 1, .int 1, .int (-1), .int 1]]) (m := 7) (u := .lst [.int (-1), .int 0, .int 1, .int 1, .int 0, .int (-2), .int 4]) (v := .lst [.int (-1), .int 0, .int (-1), .int 1, .int 0, .int 2, .int 4]) rfl rfl rfl (by simp) (by rw [hi]; rfl) (by rw [hj]; rfl))]
    exact yes (eF5_5_1 v0 v2 v3 v6 v7 v9 v11 v12 v13 v14 v15 v16 v17 v18 v19 _)
  · rw [one (l21 l hl (L := [.lst [.int 1, .int 1, .int 1, .int 1, .int 1, .int 1, .int 1], .lst [.int (-1), .int 0, .int (-1), .int 1, .int 0, .int 2, .int 4], .lst [.int 0, .int (-1), .int 1, .int (-1), .int 1, .int 1, .int 5], .lst [.int 1, .int 0, .int 0, .int 0, .int (-2), .int 0, .int 6], .lst [.int 0, .int 1, .int (-1), .int (-1), .int 1, .int (-1), .int 5], .lst [.int (-1), .int 0, .int 1, .int 1, .int 0, .int (-2), .int 4], .lst [.int 1, .int (-1), .int (-1), .int 1, .int 1, .int (-1), .int 1]]) (m := 7) (u := .lst [.int (-1), .int 0, .int 1, .int 1, .int 0, .int (-2), .int 4]) (v := .lst [.int 0, .int (-1), .int 1, .int (-1), .int 1, .int 1, .int 5]) rfl rfl rfl (by simp) (by rw [hi]; rfl) (by rw [hj]; rfl))]
    exact yes (eF5_5_2 v0 v2 v3 v6 v7 v9 v11 v12 v13 v14 v15 v16 v17 v18 v19 _)
  · rw [one (l21 l hl (L := [.lst [.int 1, .int 1, .int 1, .int 1, .int 1, .int 1, .int 1], .lst [.int (-1), .int 0, .int (-1), .int 1, .int 0, .int 2, .int 4], .lst [.int 0, .int (-1), .int 1, .int (-1), .int 1, .int 1, .int 5], .lst [.int 1, .int 0, .int 0, .int 0, .int (-2), .int 0, .int 6], .lst [.int 0, .int 1, .int (-1), .int (-1), .int 1, .int (-1), .int 5], .lst [.int (-1), .int 0, .int 1, .int 1, .int 0, .int (-2), .int 4], .lst [.int 1, .int (-1), .int (-1), .int 1, .int 1, .int (-1), .int 1]]) (m := 7) (u := .lst [.int (-1), .int 0, .int 1, .int 1, .int 0, .int (-2), .int 4]) (v := .lst [.int 1, .int 0, .int 0, .int 0, .int (-2), .int 0, .int 6]) rfl rfl rfl (by simp) (by rw [hi]; rfl) (by rw [hj]; rfl))]
    exact yes (eF5_5_3 v0 v2 v3 v6 v7 v9 v11 v12 v13 v14 v15 v16 v17 v18 v19 _)
  · rw [one (l21 l hl (L := [.lst [.int 1, .int 1, .int 1, .int 1, .int 1, .int 1, .int 1], .lst [.int (-1), .int 0, .int (-1), .int 1, .int 0, .int 2, .int 4], .lst [.int 0, .int (-1), .int 1, .int (-1), .int 1, .int 1, .int 5], .lst [.int 1, .int 0, .int 0, .int 0, .int (-2), .int 0, .int 6], .lst [.int 0, .int 1, .int (-1), .int (-1), .int 1, .int (-1), .int 5], .lst [.int (-1), .int 0, .int 1, .int 1, .int 0, .int (-2), .int 4], .lst [.int 1, .int (-1), .int (-1), .int 1, .int 1, .int (-1), .int 1]]) (m := 7) (u := .lst [.int (-1), .int 0, .int 1, .int 1, .int 0, .int (-2), .int 4]) (v := .lst [.int 0, .int 1, .int (-1), .int (-1), .int 1, .int (-1), .int 5]) rfl rfl rfl (by simp) (by rw [hi]; rfl) (by rw [hj]; rfl))]
    exact yes (eF5_5_4 v0 v2 v3 v6 v7 v9 v11 v12 v13 v14 v15 v16 v17 v18 v19 _)
  · rw [one (l21 l hl (L := [.lst [.int 1, .int 1, .int 1, .int 1, .int 1, .int 1, .int 1], .lst [.int (-1), .int 0, .int (-1), .int 1, .int 0, .int 2, .int 4], .lst [.int 0, .int (-1), .int 1, .int (-1), .int 1, .int 1, .int 5], .lst [.int 1, .int 0, .int 0, .int 0, .int (-2), .int 0, .int 6], .lst [.int 0, .int 1, .int (-1), .int (-1), .int 1, .int (-1), .int 5], .lst [.int (-1), .int 0, .int 1, .int 1, .int 0, .int (-2), .int 4], .lst [.int 1, .int (-1), .int (-1), .int 1, .int 1, .int (-1), .int 1]]) (m := 7) (u := .lst [.int (-1), .int 0, .int 1, .int 1, .int 0, .int (-2), .int 4]) (v := .lst [.int (-1), .int 0, .int 1, .int 1, .int 0, .int (-2), .int 4]) rfl rfl rfl (by simp) (by rw [hi]; rfl) (by rw [hj]; rfl))]
    exact yes (eF5_5_5 v0 v2 v3 v6 v7 v9 v11 v12 v13 v14 v15 v16 v17 v18 v19 _)
  · rw [one (l21 l hl (L := [.lst [.int 1, .int 1, .int 1, .int 1, .int 1, .int 1, .int 1], .lst [.int (-1), .int 0, .int (-1), .int 1, .int 0, .int 2, .int 4], .lst [.int 0, .int (-1), .int 1, .int (-1), .int 1, .int 1, .int 5], .lst [.int 1, .int 0, .int 0, .int 0, .int (-2), .int 0, .int 6], .lst [.int 0, .int 1, .int (-1), .int (-1), .int 1, .int (-1), .int 5], .lst [.int (-1), .int 0, .int 1, .int 1, .int 0, .int (-2), .int 4], .lst [.int 1, .int (-1), .int (-1), .int 1, .int 1, .int (-1), .int 1]]) (m := 7) (u := .lst [.int (-1), .int 0, .int 1, .int 1, .int 0, .int (-2), .int 4]) (v := .lst [.int 1, .int (-1), .int (-1), .int 1, .int 1, .int (-1), .int 1]) rfl rfl rfl (by simp) (by rw [hi]; rfl) (by rw [hj]; rfl))]
    exact yes (eF5_5_6 v0 v2 v3 v6 v7 v9 v11 v12 v13 v14 v15 v16 v17 v18 v19 _)
  · rw [one (l21 l hl (L := [.lst [.int 1, .int 1, .int 1, .int 1, .int 1, .int 1, .int 1], .lst [.int (-1), .int 0, .int (-1), .int 1, .int 0, .int 2, .int 4], .lst [.int 0, .int (-1), .int 1, .int (-1), .int 1, .int 1, .int 5], .lst [.int 1, .int 0, .int 0, .int 0, .int (-2), .int 0, .int 6], .lst [.int 0, .int 1, .int (-1), .int (-1), .int 1, .int (-1), .int 5], .lst [.int (-1), .int 0, .int 1, .int 1, .int 0, .int (-2), .int 4], .lst [.int 1, .int (-1), .int (-1), .int 1, .int 1, .int (-1), .int 1]]) (m := 7) (u := .lst [.int 1, .int (-1), .int (-1), .int 1, .int 1, .int (-1), .int 1]) (v := .lst [.int 1, .int 1, .int 1, .int 1, .int 1, .int 1, .int 1]) rfl rfl rfl (by simp) (by rw [hi]; rfl) (by rw [hj]; rfl))]
    exact yes (eF5_6_0 v0 v2 v3 v6 v7 v9 v11 v12 v13 v14 v15 v16 v17 v18 v19 _)
  · rw [one (l21 l hl (L := [.lst [.int 1, .int 1, .int 1, .int 1, .int 1, .int 1, .int 1], .lst [.int (-1), .int 0, .int (-1), .int 1, .int 0, .int 2, .int 4], .lst [.int 0, .int (-1), .int 1, .int (-1), .int 1, .int 1, .int 5], .lst [.int 1, .int 0, .int 0, .int 0, .int (-2), .int 0, .int 6], .lst [.int 0, .int 1, .int (-1), .int (-1), .int 1, .int (-1), .int 5], .lst [.int (-1), .int 0, .int 1, .int 1, .int 0, .int (-2), .int 4], .lst [.int 1, .int (-1), .int (-1), .int 1, .int 1, .int (-1), .int 1]]) (m := 7) (u := .lst [.int 1, .int (-1), .int (-1), .int 1, .int 1, .int (-1), .int 1]) (v := .lst [.int (-1), .int 0, .int (-1), .int 1, .int 0, .int 2, .int 4]) rfl rfl rfl (by simp) (by rw [hi]; rfl) (by rw [hj]; rfl))]
    exact yes (eF5_6_1 v0 v2 v3 v6 v7 v9 v11 v12 v13 v14 v15 v16 v17 v18 v19 _)
  · rw [one (l21 l hl (L := [.lst [.int 1, .int 1, .int 1, .int 1, .int 1, .int 1, .int 1], .lst [.int (-1), .int 0, .int (-1), .int 1, .int 0, .int 2, .int 4], .lst [.int 0, .int (-1), .int 1, .int (-1), .int 1, .int 1, .int 5], .lst [.int 1, .int 0, .int 0, .int 0, .int (-2), .int 0, .int 6], .lst [.int 0, .int 1, .int (-1), .int (-1), .int 1, .int (-1), .int 5], .lst [.int (-1), .int 0, .int 1, .int 1, .int 0, .int (-2), .int 4], .lst [.int 1, .int (-1), .int (-1), .int 1, .int 1, .int (-1), .int 1]]) (m := 7) (u := .lst [.int 1, .int (-1), .int (-1), .int 1, .int 1, .int (-1), .int 1]) (v := .lst [.int 0, .int (-1), .int 1, .int (-1), .int 1, .int 1, .int 5]) rfl rfl rfl (by simp) (by rw [hi]; rfl) (by rw [hj]; rfl))]
    exact yes (eF5_6_2 v0 v2 v3 v6 v7 v9 v11 v12 v13 v14 v15 v16 v17 v18 v19 _)
  · rw [one (l21 l hl (L := [.lst [.int 1, .int 1, .int 1, .int 1, .int 1, .int 1, .int 1], .lst [.int (-1), .int 0, .int (-1), .int 1, .int 0, .int 2, .int 4], .lst [.int 0, .int (-1), .int 1, .int (-1), .int 1, .int 1, .int 5], .lst [.int 1, .int 0, .int 0, .int 0, .int (-2), .int 0, .int 6], .lst [.int 0, .int 1, .int (-1), .int (-1), .int 1, .int (-1), .int 5], .lst [.int (-1), .int 0, .int 1, .int 1, .int 0, .int (-2), .int 4], .lst [.int 1, .int (-1), .int (-1), .int 1, .int 1, .int (-1), .int 1]]) (m := 7) (u := .lst [.int 1, .int (-1), .int (-1), .int 1, .int 1, .int (-1), .int 1]) (v := .lst [.int 1, .int 0, .int 0, .int 0, .int (-2), .int 0, .int 6]) rfl rfl rfl (by simp) (by rw [hi]; rfl) (by rw [hj]; rfl))]
    exact yes (eF5_6_3 v0 v2 v3 v6 v7 v9 v11 v12 v13 v14 v15 v16 v17 v18 v19 _)
  · rw [one (l21 l hl (L := [.lst [.int 1, .int 1, .int 1, .int 1, .int 1, .int 1, .int 1], .lst [.int (-1), .int 0, .int (-1), .int 1, .int 0, .int 2, .int 4], .lst [.int 0, .int (-1), .int 1, .int (-1), .int 1, .int 1, .int 5], .lst [.int 1, .int 0, .int 0, .int 0, .int (-2), .int 0, .int 6], .lst [.int 0, .int 1, .int (-1), .int (-1), .int 1, .int (-1), .int 5], .lst [.int (-1), .int 0, .int 1, .int 1, .int 0, .int (-2), .int 4], .lst [.int 1, .int (-1), .int (-1), .int 1, .int 1, .int (-1), .int 1]]) (m := 7) (u := .lst [.int 1, .int (-1), .int (-1), .int 1, .int 1, .int (-1), .int 1]) (v := .lst [.int 0, .int 1, .int (-1), .int (-1), .int 1, .int (-1), .int 5]) rfl rfl rfl (by simp) (by rw [hi]; rfl) (by rw [hj]; rfl))]
    exact yes (eF5_6_4 v0 v2 v3 v6 v7 v9 v11 v12 v13 v14 v15 v16 v17 v18 v19 _)
  · rw [one (l21 l hl (L := [.lst [.int 1, .int 1, .int 1, .int 1, .int 1, .int 1, .int 1], .lst [.int (-1), .int 0, .int (-1), .int 1, .int 0, .int 2, .int 4], .lst [.int 0, .int (-1), .int 1, .int (-1), .int 1, .int 1, .int 5], .lst [.int 1, .int 0, .int 0, .int 0, .int (-2), .int 0, .int 6], .lst [.int 0, .int 1, .int (-1), .int (-1), .int 1, .int (-1), .int 5], .lst [.int (-1), .int 0, .int 1, .int 1, .int 0, .int (-2), .int 4], .lst [.int 1, .int (-1), .int (-1), .int 1, .int 1, .int (-1), .int 1]]) (m := 7) (u := .lst [.int 1, .int (-1), .int (-1), .int 1, .int 1, .int (-1), .int 1]) (v := .lst [.int (-1), .int 0, .int 1, .int 1, .int 0, .int (-2), .int 4]) rfl rfl rfl (by simp) (by rw [hi]; rfl) (by rw [hj]; rfl))]
    exact yes (eF5_6_5 v0 v2 v3 v6 v7 v9 v11 v12 v13 v14 v15 v16 v17 v18 v19 _)
  · rw [one (l21 l hl (L := [.lst [.int 1, .int 1, .int 1, .int 1, .int 1, .int 1, .int 1], .lst [.int (-1), .int 0, .int (-1), .int 1, .int 0, .int 2, .int 4], .lst [.int 0, .int (-1), .int 1, .int (-1), .int 1, .int 1, .int 5], .lst [.int 1, .int 0, .int 0, .int 0, .int (-2), .int 0, .int 6], .lst [.int 0, .int 1, .int (-1), .int (-1), .int 1, .int (-1), .int 5], .lst [.int (-1), .int 0, .int 1, .int 1, .int 0, .int (-2), .int 4], .lst [.int 1, .int (-1), .int (-1), .int 1, .int 1, .int (-1), .int 1]]) (m := 7) (u := .lst [.int 1, .int (-1), .int (-1), .int 1, .int 1, .int (-1), .int 1]) (v := .lst [.int 1, .int (-1), .int (-1), .int 1, .int 1, .int (-1), .int 1]) rfl rfl rfl (by simp) (by rw [hi]; rfl) (by rw [hj]; rfl))]
    exact yes (eF5_6_6 v0 v2 v3 v6 v7 v9 v11 v12 v13 v14 v15 v16 v17 v18 v19 _)
theorem mid5 (l : List Int) (hl : l.length ≤ 4) (sv : V) : ∃ ρ' σ', seqL [law_4] (seqL segC (seqL segD (seqL [law_21] (seqL segF nilS)))) (rA5 sv) [poolS l 1] = some (some (.bool true), ρ', σ') := by
  rcases r5 (drw_range l 1 7 (by omega)) with hs | hs | hs | hs | hs | hs | hs
  · rw [one (l4 l hl (ρ := rA5 sv) (L := [.lst [.int 5], .lst [.int 4, .int 1], .lst [.int 3, .int 2], .lst [.int 3, .int 1, .int 1], .lst [.int 2, .int 2, .int 1], .lst [.int 2, .int 1, .int 1, .int 1], .lst [.int 1, .int 1, .int 1, .int 1, .int 1]]) (m := 7) (v := .lst [.int 5]) rfl rfl rfl (by simp) (by rw [hs]; rfl)), seqL_next (eC5 sv (.lst [.int 5]) (poolS l 2))]
    obtain ⟨ρ, τ, h0, h1, h2, h3, h4, h5, h6⟩ := projD_inv (eD5_0 sv (poolS l 2))
    rw [seqL_next h0]
    obtain ⟨v0, v1, v2, v3, v4, v5, v6, v7, v8, v9, v10, v11, v12, v13, v14, v15, v16, v17, v18, v19, rfl⟩ := shapeD ρ h1
    obtain rfl := Option.some.inj (show some v8 = some _ from h2)
    obtain rfl := Option.some.inj (show some v10 = some _ from h3)
    obtain rfl := Option.some.inj (show some v5 = some _ from h4)
    obtain rfl := Option.some.inj (show some v4 = some _ from h5)
    obtain rfl := Option.some.inj (show some v1 = some _ from h6)
    exact tail5 l hl v0 v2 v3 v6 v7 v9 v11 v12 v13 v14 v15 v16 v17 v18 v19 τ
  · rw [one (l4 l hl (ρ := rA5 sv) (L := [.lst [.int 5], .lst [.int 4, .int 1], .lst [.int 3, .int 2], .lst [.int 3, .int 1, .int 1], .lst [.int 2, .int 2, .int 1], .lst [.int 2, .int 1, .int 1, .int 1], .lst [.int 1, .int 1, .int 1, .int 1, .int 1]]) (m := 7) (v := .lst [.int 4, .int 1]) rfl rfl rfl (by simp) (by rw [hs]; rfl)), seqL_next (eC5 sv (.lst [.int 4, .int 1]) (poolS l 2))]
    obtain ⟨ρ, τ, h0, h1, h2, h3, h4, h5, h6⟩ := projD_inv (eD5_1 sv (poolS l 2))
    rw [seqL_next h0]
    obtain ⟨v0, v1, v2, v3, v4, v5, v6, v7, v8, v9, v10, v11, v12, v13, v14, v15, v16, v17, v18, v19, rfl⟩ := shapeD ρ h1
    obtain rfl := Option.some.inj (show some v8 = some _ from h2)
    obtain rfl := Option.some.inj (show some v10 = some _ from h3)
    obtain rfl := Option.some.inj (show some v5 = some _ from h4)
    obtain rfl := Option.some.inj (show some v4 = some _ from h5)
    obtain rfl := Option.some.inj (show some v1 = some _ from h6)
    exact tail5 l hl v0 v2 v3 v6 v7 v9 v11 v12 v13 v14 v15 v16 v17 v18 v19 τ
  · rw [one (l4 l hl (ρ := rA5 sv) (L := [.lst [.int 5], .lst [.int 4, .int 1], .lst [.int 3, .int 2], .lst [.int 3, .int 1, .int 1], .lst [.int 2, .int 2, .int 1], .lst [.int 2, .int 1, .int 1, .int 1], .lst [.int 1, .int 1, .int 1, .int 1, .int 1]]) (m := 7) (v := .lst [.int 3, .int 2]) rfl rfl rfl (by simp) (by rw [hs]; rfl)), seqL_next (eC5 sv (.lst [.int 3, .int 2]) (poolS l 2))]
    obtain ⟨ρ, τ, h0, h1, h2, h3, h4, h5, h6⟩ := projD_inv (eD5_2 sv (poolS l 2))
    rw [seqL_next h0]
    obtain ⟨v0, v1, v2, v3, v4, v5, v6, v7, v8, v9, v10, v11, v12, v13, v14, v15, v16, v17, v18, v19, rfl⟩ := shapeD ρ h1
    obtain rfl := Option.some.inj (show some v8 = some _ from h2)
    obtain rfl := Option.some.inj (show some v10 = some _ from h3)
    obtain rfl := Option.some.inj (show some v5 = some _ from h4)
    obtain rfl := Option.some.inj (show some v4 = some _ from h5)
    obtain rfl := Option.some.inj (show some v1 = some _ from h6)
    exact tail5 l hl v0 v2 v3 v6 v7 v9 v11 v12 v13 v14 v15 v16 v17 v18 v19 τ
  · rw [one (l4 l hl (ρ := rA5 sv) (L := [.lst [.int 5], .lst [.int 4, .int 1], .lst [.int 3, .int 2], .lst [.int 3, .int 1, .int 1], .lst [.int 2, .int 2, .int 1], .lst [.int 2, .int 1, .int 1, .int 1], .lst [.int 1, .int 1, .int 1, .int 1, .int 1]]) (m := 7) (v := .lst [.int 3, .int 1, .int 1]) rfl rfl rfl (by simp) (by rw [hs]; rfl)), seqL_next (eC5 sv (.lst [.int 3, .int 1, .int 1]) (poolS l 2))]
    obtain ⟨ρ, τ, h0, h1, h2, h3, h4, h5, h6⟩ := projD_inv (eD5_3 sv (poolS l 2))
    rw [seqL_next h0]
    obtain ⟨v0, v1, v2, v3, v4, v5, v6, v7, v8, v9, v10, v11, v12, v13, v14, v15, v16, v17, v18, v19, rfl⟩ := shapeD ρ h1
    obtain rfl := Option.some.inj (show some v8 = some _ from h2)
    obtain rfl := Option.some.inj (show some v10 = some _ from h3)
    obtain rfl := Option.some.inj (show some v5 = some _ from h4)
    obtain rfl := Option.some.inj (show some v4 = some _ from h5)
    obtain rfl := Option.some.inj (show some v1 = some _ from h6)
    exact tail5 l hl v0 v2 v3 v6 v7 v9 v11 v12 v13 v14 v15 v16 v17 v18 v19 τ
  · rw [one (l4 l hl (ρ := rA5 sv) (L := [.lst [.int 5], .lst [.int 4, .int 1], .lst [.int 3, .int 2], .lst [.int 3, .int 1, .int 1], .lst [.int 2, .int 2, .int 1], .lst [.int 2, .int 1, .int 1, .int 1], .lst [.int 1, .int 1, .int 1, .int 1, .int 1]]) (m := 7) (v := .lst [.int 2, .int 2, .int 1]) rfl rfl rfl (by simp) (by rw [hs]; rfl)), seqL_next (eC5 sv (.lst [.int 2, .int 2, .int 1]) (poolS l 2))]
    obtain ⟨ρ, τ, h0, h1, h2, h3, h4, h5, h6⟩ := projD_inv (eD5_4 sv (poolS l 2))
    rw [seqL_next h0]
    obtain ⟨v0, v1, v2, v3, v4, v5, v6, v7, v8, v9, v10, v11, v12, v13, v14, v15, v16, v17, v18, v19, rfl⟩ := shapeD ρ h1
    obtain rfl := Option.some.inj (show some v8 = some _ from h2)
    obtain rfl := Option.some.inj (show some v10 = some _ from h3)
    obtain rfl := Option.some.inj (show some v5 = some _ from h4)
    obtain rfl := Option.some.inj (show some v4 = some _ from h5)
    obtain rfl := Option.some.inj (show some v1 = some _ from h6)
    exact tail5 l hl v0 v2 v3 v6 v7 v9 v11 v12 v13 v14 v15 v16 v17 v18 v19 τ
  · rw [one (l4 l hl (ρ := rA5 sv) (L := [.lst [.int 5], .lst [.int 4, .int 1], .lst [.int 3, .int 2], .lst [.int 3, .int 1, .int 1], .lst [.int 2, .int 2, .int 1], .lst [.int 2, .int 1, .int 1, .int 1], .lst [.int 1, .int 1, .int 1, .int 1, .int 1]]) (m := 7) (v := .lst [.int 2, .int 1, .int 1, .int 1]) rfl rfl rfl (by simp) (by rw [hs]; rfl)), seqL_next (eC5 sv (.lst [.int 2, .int 1, .int 1, .int 1]) (poolS l 2))]
    obtain ⟨ρ, τ, h0, h1, h2, h3, h4, h5, h6⟩ := projD_inv (eD5_5 sv (poolS l 2))
    rw [seqL_next h0]
    obtain ⟨v0, v1, v2, v3, v4, v5, v6, v7, v8, v9, v10, v11, v12, v13, v14, v15, v16, v17, v18, v19, rfl⟩ := shapeD ρ h1
    obtain rfl := Option.some.inj (show some v8 = some _ from h2)
    obtain rfl := Option.some.inj (show some v10 = some _ from h3)
    obtain rfl := Option.some.inj (show some v5 = some _ from h4)
    obtain rfl := Option.some.inj (show some v4 = some _ from h5)
    obtain rfl := Option.some.inj (show some v1 = some _ from h6)
    exact tail5 l hl v0 v2 v3 v6 v7 v9 v11 v12 v13 v14 v15 v16 v17 v18 v19 τ
  · rw [one (l4 l hl (ρ := rA5 sv) (L := [.lst [.int 5], .lst [.int 4, .int 1], .lst [.int 3, .int 2], .lst [.int 3, .int 1, .int 1], .lst [.int 2, .int 2, .int 1], .lst [.int 2, .int 1, .int 1, .int 1], .lst [.int 1, .int 1, .int 1, .int 1, .int 1]]) (m := 7) (v := .lst [.int 1, .int 1, .int 1, .int 1, .int 1]) rfl rfl rfl (by simp) (by rw [hs]; rfl)), seqL_next (eC5 sv (.lst [.int 1, .int 1, .int 1, .int 1, .int 1]) (poolS l 2))]
    obtain ⟨ρ, τ, h0, h1, h2, h3, h4, h5, h6⟩ := projD_inv (eD5_6 sv (poolS l 2))
    rw [seqL_next h0]
    obtain ⟨v0, v1, v2, v3, v4, v5, v6, v7, v8, v9, v10, v11, v12, v13, v14, v15, v16, v17, v18, v19, rfl⟩ := shapeD ρ h1
    obtain rfl := Option.some.inj (show some v8 = some _ from h2)
    obtain rfl := Option.some.inj (show some v10 = some _ from h3)
    obtain rfl := Option.some.inj (show some v5 = some _ from h4)
    obtain rfl := Option.some.inj (show some v4 = some _ from h5)
    obtain rfl := Option.some.inj (show some v1 = some _ from h6)
    exact tail5 l hl v0 v2 v3 v6 v7 v9 v11 v12 v13 v14 v15 v16 v17 v18 v19 τ

theorem law_runs (xs : List Int) (h : xs.length ≤ 63) : ∃ σ', c_law [.lst (intVs xs)] [] = some (.bool true, σ') := by
  have h4 : (xs.take 4).length ≤ 4 := by simp; omega
  have key : ∃ ρ' σ', b_law [(45, .lst (intVs xs))] [] = some (some (.bool true), ρ', σ') := by
    rw [b_law_eq, one (l0 xs h), one (l1 _ h4 _)]
    rcases r3 (drw_range (xs.take 4) 0 3 (by omega)) with hn | hn | hn
    · rw [hn, show (3 + 0 : Int) = 3 from rfl, seqL_next (eA3 _ _)]
      exact mid3 _ h4 _
    · rw [hn, show (3 + 1 : Int) = 4 from rfl, seqL_next (eA4 _ _)]
      exact mid4 _ h4 _
    · rw [hn, show (3 + 2 : Int) = 5 from rfl, seqL_next (eA5 _ _)]
      exact mid5 _ h4 _
  obtain ⟨ρ', σ', key⟩ := key
  refine ⟨σ', ?_⟩
  unfold c_law callD
  rw [show putAll [45] [V.lst (intVs xs)] [] = some [(45, .lst (intVs xs))] from rfl]
  dsimp only
  rw [key]
  rfl
end Mine
end

section
set_option autoImplicit false
set_option Elab.async false
set_option maxRecDepth 100000
namespace Mine

theorem freeNames_free {p : Program} {loose : List Str} {mean : ExcName → Option Value} {mg mb : Str → Option Value} {h : Heap} (T : Top p loose mean mg mb h)
    (hb : (freeNames.all fun x => !(startupNames.contains x) && !(loose.contains x) && !(((recsOf p).map (·.name)).contains x) && !(((litsOf p).map (·.1)).contains x) && !(((clssOf p loose).map (·.name)).contains x)) = true) :
    ∀ x ∈ freeNames, mg x = none := by
  intro x hx
  have := List.all_eq_true.mp hb x hx
  simp only [Bool.and_eq_true, Bool.not_eq_true', List.contains_eq_mem, decide_eq_false_iff_not] at this
  obtain ⟨⟨⟨⟨h1, h2⟩, h3⟩, h4⟩, h5⟩ := this
  exact T.free x h1 h2 h3 h4 h5

open Classical in
theorem wd_of {p : Program} {loose : List Str} {mean : ExcName → Option Value} {mg mb : Str → Option Value} {prog : Program} {w : World} {h : Heap} (T : Top p loose mean mg mb h)
    (hrec : recsOf p = fnIdx.map fn) (himp : importsNone p = true)
    (hb : (freeNames.all fun x => !(startupNames.contains x) && !(loose.contains x) && !(((recsOf p).map (·.name)).contains x) && !(((litsOf p).map (·.1)).contains x) && !(((clssOf p loose).map (·.name)).contains x)) = true)
    (hr0 : ∃ v, mg (Str.ofString "R0") = some v ∧ RF prog w h [] v (.tup [.int 0, .int 1])) :
    ∃ ad, Wd ⟨prog, w, h, mg, mb, tab⟩ ad := by
  let ad : Nat → Addr := fun n => if q : ∃ a, mg (fn n).name = some (.ref a) then Classical.choose q else 0
  refine ⟨ad, ⟨⟨T.g, T.b, T.nolimit, T.builtins, ?_, (show Mine.tab.Nodup by decide +kernel)⟩, rfl, freeNames_free T hb, fun n hn => ?_, hr0⟩⟩
  · obtain ⟨mm, ⟨o, _, _, ho, _⟩, _⟩ := (T.seer himp).mods
    show (h.get? sysModules).isSome
    rw [ho]; rfl
  · have hm : fn n ∈ recsOf p := by rw [hrec]; exact List.mem_map.mpr ⟨n, hn, rfl⟩
    obtain ⟨a, o, pm, code, doc, h1, h2, h3, h4⟩ := T.fn _ hm
    have ha : ad n = a := by
      have q : ∃ a, mg (fn n).name = some (.ref a) := ⟨a, h1⟩
      show (if q : ∃ a, mg (fn n).name = some (.ref a) then Classical.choose q else 0) = a
      rw [dif_pos q]
      have := (Classical.choose_spec q).symm.trans h1
      simp only [Option.some.injEq, Value.ref.injEq] at this
      exact this
    rw [ha]
    exact ⟨h1, o, pm, code, doc, h2, h3, h4⟩

theorem ints_rfs {C : Cx} {h : Heap} {X : List Addr} : ∀ {vs : List Value} {xs : List Int}, IntsAre vs xs → RFs C h X vs (intVs xs)
  | _, _, .nil => RFs.nil
  | _, _, .cons n t r => RFs.cons (.int n t) (ints_rfs r)

/-- the law's call, as the head asks for it -/
theorem call_law {p : Program} {loose : List Str} {mean : ExcName → Option Value} {mg mb : Str → Option Value} {prog : Program} {w : World} {s : Shared} {P : Params} {fa l : Addr} {vs : List Value} {xs : List Int} {d : List WData} {A : Around} {Q : Value → Shared → Prop} {E : Value → Shared → Prop} (T : Top p loose mean mg mb s.heap)
    (hrec : recsOf p = fnIdx.map fn) (himp : importsNone p = true)
    (hb : (freeNames.all fun x => !(startupNames.contains x) && !(loose.contains x) && !(((recsOf p).map (·.name)).contains x) && !(((litsOf p).map (·.1)).contains x) && !(((clssOf p loose).map (·.name)).contains x)) = true)
    (hr0 : ∃ v, mg (Str.ofString "R0") = some v ∧ RF prog w s.heap [] v (.tup [.int 0, .int 1]))
    (hmg : mg (fn 42).name = some (.ref fa)) (hL : s.heap.IsList l vs.toArray) (hW : Well P s.heap (.ref l) (.list d)) (hI : IntsAre vs xs) (hlen : xs.length ≤ 63) (hA : ARoom A 10)
    (hQ : ∀ h' tk, (∀ b o, s.heap.get? b = some o → h'.get? b = some o) → Q (.bool true) { s with heap := h', toks := tk }) : wpAny (model prog w) A (call (.ref fa) [.ref l]) Q E s := by
  obtain ⟨ad, W⟩ := wd_of (prog := prog) (w := w) T hrec himp hb hr0
  obtain ⟨σ', hrun⟩ := law_runs xs hlen
  have h42 : fnIdx.contains 42 = true := by kernel_rfl
  have hadr : ad 42 = fa := by
    have := (W.fns 42 (List.contains_iff_mem.mp h42)).1
    have e : mg (fn 42).name = some (.ref (ad 42)) := this
    rw [hmg] at e
    simp only [Option.some.injEq, Value.ref.injEq] at e
    exact e.symm
  have pl : s.heap.PlainList l vs.toArray := by
    obtain ⟨o, ho, hc, n, hd⟩ := hL
    cases hW with
    | @list a us ys hg _ =>
      rw [hg] at ho
      cases ho
      injection hd with e1 e2
      exact ⟨0, by rw [hg, e1]⟩
  have F := W.at 42 h42 [Str.ofString "script"] (fun _ _ _ vals h => by
    obtain _ | ⟨_, _ | ⟨_, _⟩⟩ := vals <;> first | (simp at h; done) | kernel_rfl)
  have G := W.fok (sc := (fn 42).scope) [45] [Str.ofString "script"] (by kernel_rfl)
  rw [hadr] at F
  refine CO_top (C := ⟨prog, w, s.heap, mg, mb, tab⟩) (dp := 9) W.ok F G (s_law W).out (vs := [.ref l]) (us := [.lst (intVs xs)]) hA rfl ?_ hrun hQ
  have r := ints_rfs (C := ⟨prog, w, s.heap, mg, mb, tab⟩) (h := s.heap) (X := []) hI
  exact RVs.cons (RF.lst pl (by simp) r.1 r.2) .nil

end Mine
end

section
set_option autoImplicit false
set_option Elab.async false
set_option maxRecDepth 1000000
set_option maxHeartbeats 0
namespace Mine

/-- the row's law, its text, and the statements of it that bind a name that we read -/
abbrev lw : OpenLaw := PySem.Challenge.rw_xm0122_01
abbrev pw : Program := PySem.Challenge.pw_xm0122_01
noncomputable def keepIdx : List Nat := (List.range 70).filter fun i => match pw.main.body[i]? with
  | some (.Assign [.Name x _] ..) => !(x == Str.ofString "__name__")
  | some _ => true
  | none => false
noncomputable def qv : Program := view pw keepIdx
noncomputable def r0Name : Str := Str.ofString "R0"
/-- what the head observes beside: the pair R0 -/
noncomputable def hk : Hook where
  α := Bool
  obs := fun s => s.heap.tupIntsOk r0Name [0, 1]
  val := fun _ => true
  says := fun _ h => ∃ a vs, h.nsMap mainGlobals r0Name = some (.ref a) ∧ IsTup h a vs.toArray ∧ IntsAre vs [0, 1]
  of := fun _ _ e => Heap.tupIntsOk_spec e
  keeps := fun _ h h' ⟨a, vs, h1, ⟨o, h2, h3⟩, h4⟩ hk => by
    refine ⟨a, vs, ?_, ⟨o, hk _ _ h2, h3⟩, h4⟩
    unfold Heap.nsMap at h1 ⊢
    cases e : h.get? mainGlobals with
    | none => rw [e] at h1; cases h1
    | some ob => rw [e] at h1; rw [hk _ _ e]; exact h1

theorem said : lw.wellSaid = true := by
  rw [PySem.W.Fast.te9446332074065402090]
  kernel_rfl
theorem k_chains : (chainsOk qv && opensWell lw.row.prog && (frees lw.row.toRowW && lw.row.within.isEmpty)) = true := by kernel_rfl

theorem k_opens : opening pw = plainProg pw.main.scope.names := by kernel_rfl
theorem k_fence (s : Shared) : fenceModules? pw s = some s := by kernel_rfl
theorem k_imports : importedModules pw.main.body = [] := by kernel_rfl

noncomputable def xt (s : Shared) : Bool := xlAt qv [] s && recOk lw.row.toRowW.records s
theorem k_run (w : World) (os : OsState) : (topFrom treeTable pw w 1300 ⟨boot_heap w.params, #[], boot_drawn, boot_toks, os⟩).map (fun s => (openSeen qv [] [] xt true s, hk.obs s)) = some (openGood qv [], hk.val w) := by
  unfold topFrom
  rw [PySem.W.Fast.te14082659384304107361, PySem.W.Fast.te14364793385576792824, PySem.W.Fast.te4187177175401517315]
  kernel_rfl

theorem left_of {p : Program} {α : Type} {f : Shared → α} {c : World → α} (h1 : ∀ w, (fencedOpening treeTable p w 1300).map (fun s => (s.heap, s.gens, s.drawn, s.toks)) = some (boot_heap w.params, Array.mk [], boot_drawn, boot_toks))
   (h2 : ∀ w os, (topFrom treeTable p w 1300 ⟨boot_heap w.params, #[], boot_drawn, boot_toks, os⟩).map f = some (c w)) (w : World) : (openEnds treeTable p w 1300).map f = some (c w) := by
  obtain ⟨⟨h, gs, d, k, os⟩, e, e'⟩ := Option.map_eq_some_iff.mp (h1 w)
  simp only [Prod.mk.injEq] at e'
  obtain ⟨rfl, rfl, rfl, rfl⟩ := e'
  unfold openEnds
  rw [e]
  exact h2 w os
theorem k_boot (w : World) : (fencedOpening treeTable pw w 1300).map (fun s => (s.heap, s.gens, s.drawn, s.toks)) = some (boot_heap w.params, Array.mk [], boot_drawn, boot_toks) := boot_open (p := pw) (N := 1300) k_opens rfl k_fence w
theorem k_left0 (w : World) : (openEnds treeTable pw w 1300).map (fun s => (openSeen qv [] [] xt true s, hk.obs s)) = some (openGood qv [], hk.val w) := left_of k_boot k_run w
theorem k_left : LeftO pw qv [] xt hk.obs hk.val 1300 := by
  intro w
  rw [show importedModules pw.main.body = [] from k_imports]
  exact k_left0 w
theorem r0_says {h : Heap} {mg : Str → Option Value} {prog : Program} {w : World} (Y : hk.says w h) (G : h.Ns mainGlobals mg) : ∃ v, mg (Str.ofString "R0") = some v ∧ RF prog w h [] v (.tup [.int 0, .int 1]) := by
  obtain ⟨a, vs, h1, h2, h3⟩ := Y
  rw [G.eq_nsMap]
  refine ⟨.ref a, h1, ?_⟩
  obtain ⟨o, ho, hc, n, hd⟩ := h2
  cases h3 with
  | cons x t r => cases r with
    | cons y u r => cases r with
      | nil =>
        refine .tup (vs := [.int 0 t, .int 1 u]) ⟨o, ho, hc, n, hd⟩ (by simp) rfl ?_
        intro i v x e1 e2
        match i, e1, e2 with
        | 0, e1, e2 => simp at e1 e2; subst e1 e2; exact .int 0 t
        | 1, e1, e2 => simp at e1 e2; subst e1 e2; exact .int 1 u
        | i + 2, e1, e2 => simp at e1
theorem k_def : defOf qv lw.row.name = some (fn 42, []) := by kernel_rfl
theorem k_the : lw.row.prog.theDef lw.row.name = some ((fn 42).params, (fn 42).body, (fn 42).scope) := by kernel_rfl
theorem k_kw : kwWritten? (fn 42).params.kwonlyargs (fn 42).params.kw_defaults = some [] := by kernel_rfl
theorem k_recs : recsOf qv = fnIdx.map fn := by kernel_rfl
theorem k_noimp : importsNone qv = true := by kernel_rfl
theorem k_name : (fn 42).name = Str.ofString "law" := by kernel_rfl

end Mine
end

namespace Mine
set_option maxRecDepth 1000000 in
set_option maxHeartbeats 100000000 in
theorem whole : PySem.Challenge.rw_xm0122_01.Holds := by
  w_on
  refine holds_law said fun hs => ?_
  refine holds_open (q := qv) (loose := []) (Xt := xt) (XP := XL qv []) (Yf := hk.obs) (Ya := hk.val) (YP := hk.says) (N := 1300) k_left hk.of hk.keeps (fun s e => xl_of s (Bool.and_eq_true_iff.mp e).1) XL.keeps k_def k_the k_kw (fun s e => recFacts_of (Bool.and_eq_true_iff.mp e).2) rfl hs k_chains ⟨rfl, rfl, rfl, rfl, rfl, by decide +kernel⟩ ?hw ?hc
  case hw => w_witness2
  intro w s₀ s₁ mg mb G Y fa o pm cd doc dV kV ho hd hcd hD hmg hg args vals as hpre hlay hrd hwl hlo
  refine Ground.open G ?_
  intro T B D TE TW
  wrow_args hpre hlay hrd hwl hlo
  rename_i xs hs' hlay0' hL1 hr1 hl2 as4 as3 l vs as0 hL ra w1 r0 hI hr hc1 hc2
  have hname : mg (fn 42).name = some (.ref fa) := hmg
  show wpAny (model _ w) callerA (call (.ref fa) [.ref l]) _ _ s₁
  refine call_law T k_recs k_noimp (by kernel_rfl) (r0_says Y T.g) hname hL w1 hI (by omega) ⟨rfl, by decide, by decide⟩ fun h' tk hk => ?_
  refine ⟨.inl ⟨.bool true, .bool true, [], rfl, raisesW_false (by wrow_none_raised), .bool true, ?_, fun _ => ⟨List.nodup_nil, fun _ m => nomatch m⟩⟩, .of_keep hk, rfl, .of_eq hg⟩
  first | rfl | kernel_rfl
end Mine

theorem PySem.Challenge.cw_xm0122_01_holds : PySem.Challenge.rw_xm0122_01.Holds :=
  Mine.whole
