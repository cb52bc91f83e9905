import PyProof.Rows.All
import Wide.All
import Open.Line
import Wide.FinOn
import PySem.Challenge.RW_xm0393_01
open PySem PySem.Calls PySem.Spec PyProof.Rows
set_option Elab.async false
set_option maxRecDepth 100000
set_option linter.unusedVariables false
set_option maxHeartbeats 4000000
set_option compiler.extract_closed false
namespace Mine
-- M1
abbrev P0 : Program := PySem.Challenge.pw_xm0393_01

noncomputable def fdAt (i : Nat) : Str × Arguments × List Stmt × Scope := match P0.main.body[i]? with
  | some (.FunctionDef n a b _ _ _ sc _ _ _) => (n, a, b, sc)
  | _ => ("", ⟨[], [], none, [], [], none, []⟩, [], { kind := .function, names := [], isGenerator := false, isCoroutine := false })
noncomputable def nameAt (i : Nat) : Str := (fdAt i).1
noncomputable def paramsAt (i : Nat) : Arguments := (fdAt i).2.1
noncomputable def bodyAt (i : Nat) : List Stmt := (fdAt i).2.2.1
noncomputable def scopeAt (i : Nat) : Scope := (fdAt i).2.2.2

inductive AV where
  | none
  | bool (b : Bool)
  | int (i : Int)
  | fn (i : Nat)
  | own (i : Nat)
  | tup (xs : List AV)
  | list (xs : List AV)
  | dict (es : List (List Int × Int))
  | rng (a c : Int) (n : Nat)
  | slc (lo hi : Option Int)

inductive AO where
  | lst (xs : List AV)
  | fix (xs : List AV)
  | dct (es : List (List Int × Int))

noncomputable def bnames : List Str := ["len", "range", "enumerate", "tuple", "set", "sorted", "abs", "int"]
noncomputable def usedFns : List Nat := [4, 5, 6, 7, 8, 9, 14, 15, 16, 17, 18, 19, 20, 24, 25, 26, 27, 28, 30, 31, 32, 33, 34, 35, 37, 38, 43, 45, 46, 47, 48, 49]
structure Cx where
  w : World
  s : Shared
  mg : Str → Option Value
  mb : Str → Option Value
  g : s.heap.Ns mainGlobals mg
  b : s.heap.Ns builtinsNs mb
  nolimit : s.heap.NoLimit
  mods : ∃ o, s.heap.get? sysModules = some o
  builtins : ∀ x : Str, x ≠ "__name__" → mb x = bootBuiltins x
  free : ∀ x ∈ bnames, mg x = none
  fn : ∀ i ∈ usedFns, ∃ a o pm code doc, mg (nameAt i) = some (.ref a) ∧ s.heap.get? a = some o ∧
    o.data = .func (docDef (nameAt i) (paramsAt i) (bodyAt i) (scopeAt i) pm code doc) ∧ s.heap.CodeRec code (nameAt i)

/-- the world with another heap -/
abbrev Cx.at (C : Cx) (h : Heap) (tk : Nat) : Shared := { C.s with heap := h, toks := tk }
abbrev Cx.knd (C : Cx) : HeapKind P0 C.w (List Int) := tupleKind (intKind P0 C.w)

theorem Cx.not_mods (C : Cx) {a : Addr} (h : C.s.heap.get? a = none) : (a == sysModules) = false := by
  obtain ⟨o, ho⟩ := C.mods
  cases q : a == sysModules with
  | false => rfl
  | true => rw [show a = sysModules by simpa using q, ho] at h; cases h

/-- an int or nothing, as a part of a slice -/
noncomputable def PartIs (xs : Option Int) (v : Value) : Prop := match xs with
  | none => v = .none
  | some i => ∃ t, v = .int i t

/-- a value as what it stands for: all that is behind it lies apart from F -/
inductive Is (C : Cx) (F : Addr → Prop) (β : List Addr) (h : Heap) : Value → AV → Prop
  | none : Is C F β h .none .none
  | bool (b : Bool) : Is C F β h (.bool b) (.bool b)
  | int (i : Int) (t : Tok) : Is C F β h (.int i t) (.int i)
  | fn (i : Nat) (a : Addr) : i ∈ usedFns → C.mg (nameAt i) = some (.ref a) → Is C F β h (.ref a) (.fn i)
  | own (i : Nat) (a : Addr) : β[i]? = some a → Is C F β h (.ref a) (.own i)
  | tup {a : Addr} {vs : List Value} {xs : List AV} : ¬ F a → IsTup h a vs.toArray → vs.length = xs.length →
      (∀ (i : Nat) v x, vs[i]? = some v → xs[i]? = some x → Is C F β h v x) → Is C F β h (.ref a) (.tup xs)
  | list {a : Addr} {vs : List Value} {xs : List AV} : ¬ F a → h.IsList a vs.toArray → vs.length = xs.length →
      (∀ (i : Nat) v x, vs[i]? = some v → xs[i]? = some x → Is C F β h v x) → Is C F β h (.ref a) (.list xs)
  | dict {a : Addr} {xs : List (List Int × Addr × Value)} {es : List (List Int × Int)} : ¬ F a → (a == sysModules) = false → h.DictOfH C.knd a xs → (∀ x ∈ xs, ¬ F x.2.1) →
      xs.length = es.length → (∀ (i : Nat) x e, xs[i]? = some x → es[i]? = some e → x.1 = e.1 ∧ ∃ t, x.2.2 = .int e.2 t) → Is C F β h (.ref a) (.dict es)
  | rng {r : Addr} {a b c : Int} {n : Nat} {t u v : Tok} : ¬ F r → IsRange h r a b c t u v → Builtin.Range.small a b c = true → Builtin.Range.rangeSize a b c = (n : Int) → Is C F β h (.ref r) (.rng a c n)
  | slc {r : Addr} {vl vu : Value} {lo hi : Option Int} : ¬ F r → h.get? r = some { cls := .type "slice", data := .fields #[vl, vu, .none] } → PartIs lo vl → PartIs hi vu → Is C F β h (.ref r) (.slc lo hi)

/-- the same object stands -/
theorem Is.stable {C : Cx} {F F' : Addr → Prop} {β β' : List Addr} {h h' : Heap} {v : Value} {x : AV} (H : Is C F β h v x)
    (hk : ∀ b o, ¬ F b → h.get? b = some o → h'.get? b = some o) (hF : ∀ b o, ¬ F b → h.get? b = some o → ¬ F' b)
    (hβ : ∀ (i : Nat) a, β[i]? = some a → β'[i]? = some a) : Is C F' β' h' v x := by
  induction H with
  | none => exact .none
  | bool b => exact .bool b
  | int i t => exact .int i t
  | fn i a hi h => exact .fn i a hi h
  | own i a h => exact .own i a (hβ i a h)
  | tup hf ht hl _ ih =>
    obtain ⟨o, ho, r⟩ := ht
    exact .tup (hF _ o hf ho) ⟨o, hk _ o hf ho, r⟩ hl ih
  | list hf ht hl _ ih =>
    obtain ⟨o, ho, r⟩ := ht
    exact .list (hF _ o hf ho) ⟨o, hk _ o hf ho, r⟩ hl ih
  | dict hf hm hd hks hl hes =>
    obtain ⟨o, es, ep, ho, hx, hda, he, hi, hn⟩ := hd
    refine .dict (hF _ o hf ho) hm ⟨o, es, ep, hk _ o hf ho, hx, hda, he, fun x hx => ?_, hn⟩ (fun x hx => ?_) hl hes
    · obtain ⟨o', items, n, ho', r⟩ := hi x hx
      exact ⟨o', items, n, hk _ o' (hks x hx) ho', r⟩
    · obtain ⟨o', items, n, ho', r⟩ := hi x hx
      exact hF _ o' (hks x hx) ho'
  | rng hf hr hs hn => exact .rng (hF _ _ hf hr) (hk _ _ hf hr) hs hn
  | slc hf hr h1 h2 => exact .slc (hF _ _ hf hr) (hk _ _ hf hr) h1 h2

noncomputable def IsL (C : Cx) (F : Addr → Prop) (β : List Addr) (h : Heap) (vs : List Value) (xs : List AV) : Prop :=
  vs.length = xs.length ∧ ∀ (i : Nat) v x, vs[i]? = some v → xs[i]? = some x → Is C F β h v x

noncomputable def OIs (C : Cx) (F : Addr → Prop) (β : List Addr) (h : Heap) (a : Addr) : AO → Prop
  | .lst xs => ∃ vs : List Value, h.PlainList a vs.toArray ∧ IsL C F β h vs xs
  | .fix xs => ∃ vs : List Value, h.IsList a vs.toArray ∧ IsL C F β h vs xs
  | .dct es => ∃ xs : List (List Int × Addr × Value), h.DictOfH C.knd a xs ∧ (∀ x ∈ xs, ¬ F x.2.1) ∧ xs.length = es.length ∧
      ∀ (i : Nat) x e, xs[i]? = some x → es[i]? = some e → x.1 = e.1 ∧ ∃ t, x.2.2 = .int e.2 t

noncomputable def ownCells (env : Env) : List Addr := (env.cells.filter fun x => env.kindOf x.1 == some .cell).map (·.2)
noncomputable def mine (env : Env) (β : List Addr) : List Addr := env.locals :: (ownCells env ++ β)
noncomputable def Fb (X : Addr → Prop) (env : Env) (β : List Addr) (a : Addr) : Prop := X a ∨ a ∈ mine env β

noncomputable def VarIs (env : Env) (h : Heap) (x : Str) (v : Value) : Prop :=
  (env.kindOf x = some .local ∧ ∃ m, h.Ns env.locals m ∧ m x = some v) ∨
  ((env.kindOf x = some .cell ∨ env.kindOf x = some .free) ∧ ∃ c, env.cells.lookup x = some c ∧ h.IsCell c (some v))

structure EnvOk (env : Env) : Prop where
  kind : env.scope.kind = .function
  globals : env.globals = mainGlobals
  builtins : env.builtins = builtinsNs

structure Hold (C : Cx) (X : Addr → Prop) (env : Env) (l : List (Str × AV)) (β : List Addr) (Os : List AO) (p : List (Value × AV)) (h : Heap) : Prop where
  ok : EnvOk env
  base : ∀ b o, C.s.heap.get? b = some o → h.get? b = some o
  xin : ∀ a, X a → C.s.heap.get? a = none ∧ ∃ o, h.get? a = some o
  nd : (mine env β).Nodup
  new : ∀ a ∈ mine env β, C.s.heap.get? a = none ∧ ¬ X a ∧ ∃ o, h.get? a = some o
  ns : ∃ m, h.Ns env.locals m
  cl : ∀ x c, env.cells.lookup x = some c → (c ∈ ownCells env ∨ X c) ∧ ∃ v, h.IsCell c v
  cown : ∀ x c, env.cells.lookup x = some c → env.kindOf x = some .cell → c ∈ ownCells env
  capart : ∀ x y c, env.cells.lookup x = some c → env.cells.lookup y = some c → x = y
  vars : ∀ x av, l.lookup x = some av → ∃ v, VarIs env h x v ∧ Is C (Fb X env β) β h v av
  len : β.length = Os.length
  objs : ∀ (i : Nat) a o, β[i]? = some a → Os[i]? = some o → OIs C (Fb X env β) β h a o
  pend : ∀ v av, (v, av) ∈ p → Is C (Fb X env β) β h v av

/-- all that stood, but what is the frame's own, stands -/
noncomputable def Pres (env : Env) (β : List Addr) (h h' : Heap) : Prop := ∀ b o, h.get? b = some o → b ∉ mine env β → h'.get? b = some o

noncomputable def D0 : Nat := 700
structure Room (d : Nat) (A : Around) : Prop where
  hand : A.handled = none
  dep : A.depth + d ≤ recursionLimit
  un : A.units + 8 * d + 8 ≤ cLine

/-- where a step has come to -/
inductive Ends (C : Cx) (P : Heap → Prop) (s' : Shared) : Prop
  | mk (h' : Heap) (tk' : Nat) (e : s' = (C.at h' tk')) (p : P h') : Ends C P s'
noncomputable def Wp (C : Cx) (d : Nat) {α : Type} (t : Sem α) (h : Heap) (P : α → Heap → Prop) : Prop :=
  ∀ (A : Around) (tk : Nat), Room d A → wpAny (model P0 C.w) A t (fun v s' => Ends C (P v) s') (fun _ _ => False) (C.at h tk)

section
variable {C : Cx} {d : Nat} {α γ : Type} {h : Heap}
theorem Wp.pure {a : α} {P : α → Heap → Prop} (hp : P a h) : Wp C d (pure a) h P := fun _ _ _ => wpAny_pure ⟨_, _, rfl, hp⟩
theorem Wp.bind {m : Sem α} {f : α → Sem γ} {P : γ → Heap → Prop} (hm : Wp C d m h (fun a h' => Wp C d (f a) h' P)) : Wp C d (m >>= f) h P :=
  fun A tk R => wpAny_bind (wpAny_mono (hm A tk R) (fun a s' ⟨h', tk', e, w⟩ => by subst e; exact w A tk' R) fun _ _ e => e)
theorem Wp.mono {t : Sem α} {P P' : α → Heap → Prop} (ht : Wp C d t h P) (hP : ∀ a h', P a h' → P' a h') : Wp C d t h P' :=
  fun A tk R => wpAny_mono (ht A tk R) (fun _ _ zz => by obtain ⟨h', tk', e, w⟩ := zz; exact ⟨h', tk', e, hP _ _ w⟩) fun _ _ e => e
theorem Room.le {d d' : Nat} {A : Around} (R : Room d A) (h : d' ≤ d) : Room d' A := ⟨R.hand, by have := R.dep; lia  , by have := R.un; lia  ⟩
theorem Wp.le {d d' : Nat} {t : Sem α} {P : α → Heap → Prop} (ht : Wp C d' t h P) (hd : d' ≤ d) : Wp C d t h P := fun A tk R => ht A tk (R.le hd)
end

abbrev RelT (α A : Type) := Cx → (Addr → Prop) → List Addr → Heap → α → A → Prop

inductive Post (C : Cx) (X : Addr → Prop) (env : Env) (β : List Addr) (p : List (Value × AV)) (h : Heap) {α A : Type} (R : RelT α A) (Q : A → List (Str × AV) → List AO → Prop) (v : α) (h' : Heap) : Prop
  | mk (β' : List Addr) (a : A) (l' : List (Str × AV)) (Os' : List AO) (h1 : Hold C X env l' (β ++ β') Os' p h') (h2 : Pres env β h h') (h3 : ∀ b ∈ β', h.get? b = none) (h4 : R C (Fb X env (β ++ β')) (β ++ β') h' v a) (h5 : Q a l' Os') : Post C X env β p h R Q v h'

noncomputable def Wi (C : Cx) (d : Nat) (env : Env) (p : List (Value × AV)) {α A : Type} (R : RelT α A) (t : Sem α) (l : List (Str × AV)) (Os : List AO) (Q : A → List (Str × AV) → List AO → Prop) : Prop :=
  ∀ X β h, Hold C X env l β Os p h → Wp C d t h (Post C X env β p h R Q)

noncomputable def RV : RelT Value AV := Is
noncomputable def RU : RelT Unit Unit := fun _ _ _ _ _ _ => True
noncomputable def RB : RelT Bool Bool := fun _ _ _ _ b c => b = c
noncomputable def RL : RelT (List Value) (List AV) := IsL
inductive AF where
  | next | brk | cont
  | ret (v : AV)
inductive RF : RelT Flow AF
  | next {C F β h} : RF C F β h .next .next
  | brk {C F β h} : RF C F β h .brk .brk
  | cont {C F β h} : RF C F β h .cont .cont
  | ret {C F β h v x} : Is C F β h v x → RF C F β h (.ret v) (.ret x)

theorem mine_append (env : Env) (β β' : List Addr) : mine env (β ++ β') = mine env β ++ β' := by simp [mine]
theorem get_append {β β' : List Addr} : ∀ (i : Nat) a, β[i]? = some a → (β ++ β')[i]? = some a := fun i a h => by
  rw [List.getElem?_append_left (List.getElem?_eq_some_iff.mp h).1]; exact h

theorem is_later {C : Cx} {X : Addr → Prop} {env : Env} {β β' : List Addr} {h h' : Heap} {v : Value} {x : AV} (H : Is C (Fb X env β) β h v x)
    (hp : Pres env β h h') (hf : ∀ b ∈ β', h.get? b = none) : Is C (Fb X env (β ++ β')) (β ++ β') h' v x :=
  H.stable (fun b o hb e => hp b o e fun hm => hb (.inr hm)) (fun b o hb e hx => by
    rcases hx with hx | hx
    · exact hb (.inl hx)
    · rw [mine_append] at hx
      rcases List.mem_append.mp hx with hx | hx
      · exact hb (.inr hx)
      · rw [hf b hx] at e; cases e) get_append

theorem Pres.refl (env : Env) (β : List Addr) (h : Heap) : Pres env β h h := fun _ _ e _ => e
theorem Pres.trans {env : Env} {β β' : List Addr} {h h' h'' : Heap} (x : Pres env β h h') (hf : ∀ b ∈ β', h.get? b = none) (y : Pres env (β ++ β') h' h'') : Pres env β h h'' := fun b o e hb =>
  y b o (x b o e hb) fun hm => by
    rw [mine_append] at hm
    rcases List.mem_append.mp hm with hm | hm
    · exact hb hm
    · rw [hf b hm] at e; cases e

theorem Hold.weak {C : Cx} {X : Addr → Prop} {env : Env} {l : List (Str × AV)} {β : List Addr} {Os : List AO} {p p' : List (Value × AV)} {h : Heap} (H : Hold C X env l β Os p h)
    (hp : ∀ x ∈ p', x ∈ p) : Hold C X env l β Os p' h := { H with pend := fun v av hm => H.pend v av (hp _ hm) }

theorem Hold.vars_le {C : Cx} {X : Addr → Prop} {env : Env} {l l' : List (Str × AV)} {β : List Addr} {Os : List AO} {p : List (Value × AV)} {h : Heap} (H : Hold C X env l β Os p h)
    (hl : ∀ x av, l'.lookup x = some av → l.lookup x = some av) : Hold C X env l' β Os p h := { H with vars := fun x av e => H.vars x av (hl x av e) }

theorem Hold.push {C : Cx} {X : Addr → Prop} {env : Env} {l : List (Str × AV)} {β : List Addr} {Os : List AO} {p : List (Value × AV)} {h : Heap} {v : Value} {a : AV} (H : Hold C X env l β Os p h)
    (hv : Is C (Fb X env β) β h v a) : Hold C X env l β Os ((v, a) :: p) h :=
  have hp : ∀ v' av, (v', av) ∈ (v, a) :: p → Is C (Fb X env β) β h v' av := fun v' av hm => by
    rcases List.mem_cons.mp hm with e | hm
    · cases e; exact hv
    · exact H.pend v' av hm
  { H with pend := hp }

section
variable {C : Cx} {d : Nat} {env : Env} {p : List (Value × AV)} {α A γ B : Type} {R : RelT α A} {R' : RelT γ B} {l : List (Str × AV)} {Os : List AO}

theorem Post.mono {X : Addr → Prop} {β : List Addr} {h : Heap} {Q Q' : A → List (Str × AV) → List AO → Prop} {v : α} {h' : Heap} (x : Post C X env β p h R Q v h') (hQ : ∀ a l O, Q a l O → Q' a l O) :
    Post C X env β p h R Q' v h' := let ⟨β', a, l', Os', h1, h2, h3, h4, h5⟩ := x; ⟨β', a, l', Os', h1, h2, h3, h4, hQ _ _ _ h5⟩

theorem Wi.mono {t : Sem α} {Q Q' : A → List (Str × AV) → List AO → Prop} (H : Wi C d env p R t l Os Q) (hQ : ∀ a l O, Q a l O → Q' a l O) : Wi C d env p R t l Os Q' :=
  fun X β h hh => (H X β h hh).mono fun _ _ x => x.mono hQ

/-- what is behind: the state goes on from where the first ended -/
theorem Post.trans {X : Addr → Prop} {β : List Addr} {h : Heap} {β' : List Addr} {h' : Heap} {Q : B → List (Str × AV) → List AO → Prop} {u : γ} {h'' : Heap} {p' : List (Value × AV)}
    (x : Pres env β h h') (hf : ∀ b ∈ β', h.get? b = none) (y : Post C X env (β ++ β') p' h' R' Q u h'') (hp : ∀ x ∈ p, x ∈ p') (hm : ∀ b o, h.get? b = some o → ∃ o', h'.get? b = some o') : Post C X env β p h R' Q u h'' := by
  obtain ⟨β'', b, l'', Os'', h1, h2, h3, h4, h5⟩ := y
  refine ⟨β' ++ β'', b, l'', Os'', ?_, x.trans hf h2, fun b hb => ?_, ?_, h5⟩
  · rw [← List.append_assoc]; exact h1.weak hp
  · rcases List.mem_append.mp hb with hb | hb
    · exact hf b hb
    · cases e : h.get? b with
      | none => rfl
      | some o =>
        obtain ⟨o', e'⟩ := hm b o e
        rw [h3 b hb] at e'; cases e'
  · rw [← List.append_assoc]; exact h4

theorem Hold.still {X : Addr → Prop} {β β' : List Addr} {h h' : Heap} {l' : List (Str × AV)} {Os' : List AO} {p p' : List (Value × AV)} (H : Hold C X env l β Os p h) (H' : Hold C X env l' (β ++ β') Os' p' h') (x : Pres env β h h') :
    ∀ b o, h.get? b = some o → ∃ o', h'.get? b = some o' := fun b o e => by
  by_cases hb : b ∈ mine env β
  · exact (H'.new b (by rw [mine_append]; exact List.mem_append_left _ hb)).2.2
  · exact ⟨o, x b o e hb⟩

theorem Wi.bindV {m : Sem Value} {f : Value → Sem γ} {Q : B → List (Str × AV) → List AO → Prop} (hm : Wi C d env p RV m l Os (fun a l' O' => ∀ v, Wi C d env ((v, a) :: p) R' (f v) l' O' Q)) :
    Wi C d env p R' (m >>= f) l Os Q := fun X β h H => Wp.bind ((hm X β h H).mono fun v h' zz => by
  obtain ⟨β', a, l', Os', h1, h2, h3, h4, h5⟩ := zz
  exact (h5 v X (β ++ β') h' (h1.push h4)).mono fun u h'' y => y.trans h2 h3 (fun _ hx => List.mem_cons_of_mem _ hx) (H.still h1 h2))

theorem Wi.bindO {m : Sem α} {f : α → Sem γ} {Q : B → List (Str × AV) → List AO → Prop} (hm : Wi C d env p R m l Os (fun a l' O' => ∀ v, (∃ F β h, R C F β h v a) → Wi C d env p R' (f v) l' O' Q)) :
    Wi C d env p R' (m >>= f) l Os Q := fun X β h H => Wp.bind ((hm X β h H).mono fun v h' zz => by
  obtain ⟨β', a, l', Os', h1, h2, h3, h4, h5⟩ := zz
  exact (h5 v ⟨_, _, _, h4⟩ X (β ++ β') h' h1).mono fun u h'' y => y.trans h2 h3 (fun _ hx => hx) (H.still h1 h2))
end
-- M2
section
variable {C : Cx} {d : Nat} {env : Env} {p : List (Value × AV)} {α A γ B : Type} {R : RelT α A} {R' : RelT γ B} {l : List (Str × AV)} {Os : List AO} {Q : A → List (Str × AV) → List AO → Prop}

theorem Wi.holding {vs : List Value} {t : Sem α} (H : Wi C d env p R t l Os Q) : Wi C d env p R (PySem.holding vs t) l Os Q :=
  fun X β h hh A' tk r => wpAny_holding (H X β h hh A' tk r)
theorem Wi.operate {vs : List Value} {t : Sem Value} {Q : AV → List (Str × AV) → List AO → Prop} (H : Wi C d env p RV t l Os Q) : Wi C d env p RV (PySem.operate vs t) l Os Q :=
  fun X β h hh A' tk r => wpAny_operating (H X β h hh A' tk r)
theorem Wi.standAt {pos : Pos} {k : Unit → Sem α} (H : Wi C d env p R (k ()) l Os Q) : Wi C d env p R (PySem.standAt pos >>= k) l Os Q :=
  fun X β h hh A' tk r => wpAny_bind (wpAny_standAt (H X β h hh A' tk r))
theorem Wi.release {vs ks : List Value} {k : Unit → Sem α} (H : Wi C d env p R (k ()) l Os Q) : Wi C d env p R (PySem.release vs ks >>= k) l Os Q :=
  fun X β h hh A' tk r => wpAny_bind (wpAny_release (H X β h hh A' tk r))

theorem Hold.keeps {X : Addr → Prop} {β : List Addr} {h h' : Heap} (H : Hold C X env l β Os p h) (hk : ∀ b o, h.get? b = some o → h'.get? b = some o) : Hold C X env l β Os p h' where
  ok := H.ok
  base := fun b o e => hk b o (H.base b o e)
  xin := fun a hx => let ⟨h1, o, h2⟩ := H.xin a hx; ⟨h1, o, hk _ _ h2⟩
  nd := H.nd
  new := fun a ha => let ⟨h1, h2, o, h3⟩ := H.new a ha; ⟨h1, h2, o, hk _ _ h3⟩
  ns := let ⟨m, hm⟩ := H.ns; ⟨m, hm.keeps hk⟩
  cl := fun x c e => let ⟨h1, v, h2⟩ := H.cl x c e; ⟨h1, v, h2.keeps hk⟩
  cown := H.cown
  capart := H.capart
  vars := fun x av e => by
    obtain ⟨v, hv, hi⟩ := H.vars x av e
    refine ⟨v, ?_, hi.stable (fun b o _ e => hk b o e) (fun b o hb _ => hb) fun _ _ e => e⟩
    rcases hv with ⟨k, m, hm, hx⟩ | ⟨k, c, hc, hx⟩
    · exact .inl ⟨k, m, hm.keeps hk, hx⟩
    · exact .inr ⟨k, c, hc, hx.keeps hk⟩
  len := H.len
  objs := fun i a o ha ho => by
    have hs : ∀ {v x}, Is C (Fb X env β) β h v x → Is C (Fb X env β) β h' v x := fun hi => hi.stable (fun b o _ e => hk b o e) (fun b o hb _ => hb) fun _ _ e => e
    have := H.objs i a o ha ho
    cases o with
    | lst xs => obtain ⟨vs, ⟨n, h1⟩, h2, h3⟩ := this; exact ⟨vs, ⟨n, hk _ _ h1⟩, h2, fun i v x e e' => hs (h3 i v x e e')⟩
    | fix xs => obtain ⟨vs, ⟨ol, h1, hr⟩, h2, h3⟩ := this; exact ⟨vs, ⟨ol, hk _ _ h1, hr⟩, h2, fun i v x e e' => hs (h3 i v x e e')⟩
    | dct es =>
      obtain ⟨xs, ⟨o, es', ep, ho, hx, hda, he, hi, hn⟩, hks, hl, hes⟩ := this
      exact ⟨xs, ⟨o, es', ep, hk _ _ ho, hx, hda, he, fun x hx => let ⟨o', items, n, ho', r⟩ := hi x hx; ⟨o', items, n, hk _ _ ho', r⟩, hn⟩, hks, hl, hes⟩
  pend := fun v av hm => (H.pend v av hm).stable (fun b o _ e => hk b o e) (fun b o hb _ => hb) fun _ _ e => e

theorem Hold.fresh {X : Addr → Prop} {β : List Addr} {h : Heap} (H : Hold C X env l β Os p h) {a : Addr} (e : h.get? a = none) : ¬ Fb X env β a := by
  rintro (hx | hm)
  · obtain ⟨_, o, ho⟩ := H.xin a hx; rw [e] at ho; cases ho
  · obtain ⟨_, _, o, ho⟩ := H.new a hm; rw [e] at ho; cases ho
theorem get_size (h : Heap) : h.get? h.objs.size = none := by
  cases e : h.get? h.objs.size with
  | none => rfl
  | some o => exact absurd (Heap.lt_size e) (Nat.lt_irrefl _)
theorem Hold.freshSize {X : Addr → Prop} {β : List Addr} {h : Heap} (H : Hold C X env l β Os p h) : ¬ Fb X env β h.objs.size := H.fresh (get_size h)

/-- a step that changes nothing that stood: its value is known -/
theorem Wi.keep {t : Sem α} {a : A} (ht : ∀ X β h, Hold C X env l β Os p h → Wp C d t h (fun v h' => (∀ b o, h.get? b = some o → h'.get? b = some o) ∧ R C (Fb X env β) β h' v a)) (hQ : Q a l Os) :
    Wi C d env p R t l Os Q := fun X β h H => (ht X β h H).mono fun v h' ⟨hk, hr⟩ =>
  ⟨[], a, l, Os, (by rw [List.append_nil]; exact H.keeps hk), (fun b o e _ => hk b o e), (fun _ hb => (nomatch hb)), (by rw [List.append_nil]; exact hr), hQ⟩

theorem Wi.ret {v : α} {a : A} (hr : ∀ X β h, Hold C X env l β Os p h → R C (Fb X env β) β h v a) (hQ : Q a l Os) : Wi C d env p R (pure v) l Os Q :=
  Wi.keep (fun X β h H => Wp.pure ⟨fun _ _ e => e, hr X β h H⟩) hQ

/-- a primitive whose rule hands on one value in an unchanged heap -/
theorem Wi.prim {t : Sem Value} {x : AV} {Q : AV → List (Str × AV) → List AO → Prop}
    (ht : ∀ X β h, Hold C X env l β Os p h → ∀ (A : Around) (tk : Nat), Room d A → ∀ Q' : Value → Shared → Prop,
      (∀ v h' tk', (∀ b o, h.get? b = some o → h'.get? b = some o) → Is C (Fb X env β) β h' v x → Q' v (C.at h' tk')) →
      wpAny (model P0 C.w) A t Q' (fun _ _ => False) (C.at h tk)) (hQ : Q x l Os) : Wi C d env p RV t l Os Q :=
  Wi.keep (fun X β h H A tk r => ht X β h H A tk r _ fun v h' tk' hk hi => ⟨h', tk', rfl, hk, hi⟩) hQ
end

/-- the judgements that a proof sees -/
noncomputable def WE (C : Cx) (d : Nat) (env : Env) (e : Expr) (l : List (Str × AV)) (Os : List AO) (Q : AV → List (Str × AV) → List AO → Prop) : Prop := ∀ p, Wi C d env p RV (eval e env) l Os Q
noncomputable def WT (C : Cx) (d : Nat) (env : Env) (e : Expr) (l : List (Str × AV)) (Os : List AO) (Q : Bool → List (Str × AV) → List AO → Prop) : Prop := ∀ p, Wi C d env p RB (isTrue e env (eval e env)) l Os Q
noncomputable def WA (C : Cx) (d : Nat) (env : Env) (es : List Expr) (pos : Pos) (l : List (Str × AV)) (Os : List AO) (Q : List AV → List (Str × AV) → List AO → Prop) : Prop := ∀ p, Wi C d env p RL (spliced (backTo pos (starEach es env))) l Os Q
noncomputable def WS (C : Cx) (d : Nat) (env : Env) (st : Stmt) (l : List (Str × AV)) (Os : List AO) (Q : AF → List (Str × AV) → List AO → Prop) : Prop := ∀ p, Wi C d env p RF (exec st env) l Os Q
noncomputable def WB (C : Cx) (d : Nat) (env : Env) (ss : List Stmt) (l : List (Str × AV)) (Os : List AO) (Q : AF → List (Str × AV) → List AO → Prop) : Prop := ∀ p, Wi C d env p RF (execs ss env) l Os Q

theorem is_int {C : Cx} {F β h v i} (H : Is C F β h v (.int i)) : ∃ t, v = .int i t := by cases H; exact ⟨_, rfl⟩
theorem is_bool {C : Cx} {F β h v b} (H : Is C F β h v (.bool b)) : v = .bool b := by cases H; rfl

/-- what an operator does with two ints -/
inductive BinI (K : AV → Prop) : Operator → AV → AV → Prop
  | add {x y : Int} : K (.int (x + y)) → BinI K .Add (.int x) (.int y)
  | sub {x y : Int} : K (.int (x - y)) → BinI K .Sub (.int x) (.int y)
  | mul {x y : Int} : IntMulOk x y → K (.int (x * y)) → BinI K .Mult (.int x) (.int y)
  | div {x y : Int} : y ≠ 0 → Builtin.divisionGoesByPylong x y = false → K (.int (x.fdiv y)) → BinI K .FloorDiv (.int x) (.int y)
  | mod {x y : Int} : y ≠ 0 → K (.int (x.fmod y)) → BinI K .Mod (.int x) (.int y)
  | shl {x y : Int} : 0 ≤ y → y ≤ 1000 → x.natAbs < 2 ^ 64 → K (.int (x * 2 ^ y.toNat)) → BinI K .LShift (.int x) (.int y)
  | shr {x y : Int} : 0 ≤ y → K (.int (x.fdiv (2 ^ y.toNat))) → BinI K .RShift (.int x) (.int y)
  | and {x y : Int} : K (.int (Builtin.bitAnd x y)) → BinI K .BitAnd (.int x) (.int y)
  | or {x y : Int} : K (.int (Builtin.bitOr x y)) → BinI K .BitOr (.int x) (.int y)
  | pow {x y : Int} : 0 ≤ y → (Builtin.Int.intBits x : Int) * y ≤ 2 ^ 27 → K (.int (x ^ y.toNat)) → BinI K .Pow (.int x) (.int y)
noncomputable def BinR (op : Operator) (a b : AV) (K : AV → Prop) : Prop := BinI K op a b

section
variable {C : Cx} {d : Nat} {env : Env} {p : List (Value × AV)} {l : List (Str × AV)} {Os : List AO} {Q : AV → List (Str × AV) → List AO → Prop}

theorem bin_prim {op : Operator} {u v : Value} {a b : AV} (hu : (u, a) ∈ p) (hv : (v, b) ∈ p) (hK : BinR op a b fun c => Q c l Os) : Wi C d env p RV (binaryOp op u v) l Os Q := by
  have fin : ∀ (x y : Int) (k : Int), a = .int x → b = .int y → Q (.int k) l Os →
      (∀ (A : Around) (s : Shared) (t t' : Tok) (Q' : Value → Shared → Prop), Q' (.int k s.toks) { s with toks := s.toks + 1 } → wpAny (model P0 C.w) A (binaryOp op (.int x t) (.int y t')) Q' (fun _ _ => False) s) →
      Wi C d env p RV (binaryOp op u v) l Os Q := by
    intro x y k ha hb hq hw
    subst ha; subst hb
    refine Wi.prim (x := .int k) (fun X β h H A tk r Q' hQ' => ?_) hq
    obtain ⟨t, rfl⟩ := is_int (H.pend _ _ hu)
    obtain ⟨t', rfl⟩ := is_int (H.pend _ _ hv)
    exact hw A _ t t' Q' (hQ' _ _ _ (fun _ _ e => e) (.int _ _))
  have hK : BinI (fun c => Q c l Os) op a b := hK
  cases hK with
  | add h => exact fin _ _ _ rfl rfl h fun A s t t' Q' h => add_int h
  | sub h => exact fin _ _ _ rfl rfl h fun A s t t' Q' h => sub_int h
  | mul h0 h => exact fin _ _ _ rfl rfl h fun A s t t' Q' h => mul_int h h0
  | div h0 h1 h => exact fin _ _ _ rfl rfl h fun A s t t' Q' h => floordiv_int h0 h (.inl h1)
  | mod h0 h => exact fin _ _ _ rfl rfl h fun A s t t' Q' h => mod_int' h0 h
  | shl h0 h1 h2 h => exact fin _ _ _ rfl rfl h fun A s t t' Q' h => lshift_int_small h0 (by lia  ) h2 h
  | shr h0 h => exact fin _ _ _ rfl rfl h fun A s t t' Q' h => rshift_int h0 h
  | and h => exact fin _ _ _ rfl rfl h fun A s t t' Q' h => and_int h
  | or h => exact fin _ _ _ rfl rfl h fun A s t t' Q' h => or_int h
  | pow h0 h1 h => exact fin _ _ _ rfl rfl h fun A s t t' Q' h => pow_int h0 h1 h

theorem E_BinOp {L : Expr} {op : Operator} {Rr : Expr} {pos : Pos} (hl : WE C d env L l Os (fun a l1 O1 => WE C d env Rr l1 O1 (fun b l2 O2 => BinR op a b fun c => Q c l2 O2))) : WE C d env (.BinOp L op Rr pos) l Os Q := fun p => by
  show Wi C d env p RV (eval L env >>= fun a => holding [a] (eval Rr env) >>= fun b => standAt pos >>= fun _ => operate [a, b] (binaryOp op a b)) l Os Q
  refine Wi.bindV ((hl p).mono fun a l1 O1 h1 v => ?_)
  refine Wi.bindV (Wi.holding ((h1 ((v, a) :: p)).mono fun b l2 O2 h2 u => Wi.standAt (Wi.operate ?_)))
  exact bin_prim (.tail _ (.head _)) (.head _) h2

theorem E_int {i : Int} {k : Nat} {pos : Pos} (hQ : Q (.int i) l Os) : WE C d env (.Constant (.int i) k pos) l Os Q := fun p =>
  Wi.prim (x := .int i) (fun X β h H A tk r Q' hQ' => wpAny_Constant_int (hQ' _ _ _ (fun _ _ e => e) (.int _ _))) hQ
theorem E_bool {b : Bool} {k : Nat} {pos : Pos} (hQ : Q (.bool b) l Os) : WE C d env (.Constant (.bool b) k pos) l Os Q := fun p =>
  Wi.prim (x := .bool b) (fun X β h H A tk r Q' hQ' => wpAny_Constant_bool (hQ' _ _ _ (fun _ _ e => e) (.bool _))) hQ

theorem VarIs.load {h : Heap} {x : Str} {v : Value} {A : Around} {E : Value → Shared → Prop} {s : Shared} {Q' : Value → Shared → Prop} {M : Model} (hk : env.scope.kind = .function) (V : VarIs env s.heap x v)
    (hn : (x == ("__classdict__" : Str)) = false) (hQ : Q' v s) : wpAny M A (loadName env x) Q' E s := by
  rcases V with ⟨k, m, hm, hx⟩ | ⟨k | k, c, hc, hx⟩
  · exact wpAny_loadName_local hk k hm hx hQ
  · exact wpAny_loadName_cell hk k hc hx hQ
  · exact wpAny_loadName_free hk k hc hx hQ hn

/-- a name with no meaning of its own -/
noncomputable def plainN (x : Str) : Bool := !(x == ("__debug__" : Str)) && !(x == ("__classdict__" : Str))
theorem plainN_1 {x : Str} (h : plainN x = true) : (x == ("__debug__" : Str)) = false := by unfold plainN at h; simpa using (Bool.and_eq_true_iff.mp h).1
theorem plainN_2 {x : Str} (h : plainN x = true) : (x == ("__classdict__" : Str)) = false := by unfold plainN at h; simpa using (Bool.and_eq_true_iff.mp h).2
theorem E_var {x : Str} {pos : Pos} {av : AV} (hx : l.lookup x = some av) (hQ : Q av l Os) (hp : plainN x = true := by decide +kernel) :
    WE C d env (.Name x pos) l Os Q := fun p =>
  Wi.prim (x := av) (fun X β h H A tk r Q' hQ' => by
    obtain ⟨v, hv, hi⟩ := H.vars x av hx
    exact wpAny_Name (VarIs.load (h := h) H.ok.kind hv (plainN_2 hp) (hQ' v h tk (fun _ _ e => e) hi)) (plainN_1 hp)) hQ

theorem E_fn {x : Str} {pos : Pos} {i : Nat} (hi : i ∈ usedFns) (hx : nameAt i = x) (hk : env.kindOf x = some .globalImplicit) (hQ : Q (.fn i) l Os) (h1 : (x == ("__debug__" : Str)) = false := by decide +kernel) :
    WE C d env (.Name x pos) l Os Q := fun p =>
  Wi.prim (x := .fn i) (fun X β h H A tk r Q' hQ' => by
    obtain ⟨a, o, pm, code, doc, hg, _⟩ := C.fn i hi
    refine Name_function_global H.ok.kind hk (loadGlobal_global (mg := C.mg) ?_ (v := .ref a) (hx ▸ hg) (hQ' _ h tk (fun _ _ e => e) (.fn i a hi hg))) h1
    rw [H.ok.globals]
    exact C.g.keeps H.base) hQ

theorem E_Neg {x : Expr} {pos : Pos} (hx : WE C d env x l Os (fun a l1 O1 => ∃ i, a = .int i ∧ Q (.int (-i)) l1 O1)) : WE C d env (.UnaryOp .USub x pos) l Os Q := fun p => by
  show Wi C d env p RV (eval x env >>= fun v => standAt pos >>= fun _ => holding [v] (unaryOp .USub v)) l Os Q
  refine Wi.bindV ((hx p).mono fun a l1 O1 h1 v => Wi.standAt (Wi.holding ?_))
  obtain ⟨i, rfl, hq⟩ := h1
  refine Wi.prim (x := .int (-i)) (fun X β h H A tk r Q' hQ' => ?_) hq
  obtain ⟨t, rfl⟩ := is_int (H.pend v _ (.head _))
  exact neg_int (hQ' _ _ _ (fun _ _ e => e) (.int _ _))
end

/-- the truth of a value -/
noncomputable def TruR (a : AV) (K : Bool → Prop) : Prop := match a with
  | .bool b => K b
  | _ => False
section
variable {C : Cx} {d : Nat} {env : Env} {p : List (Value × AV)} {l : List (Str × AV)} {Os : List AO}
theorem truthy_prim {v : Value} {a : AV} {Q : Bool → List (Str × AV) → List AO → Prop} (hv : (v, a) ∈ p) (hK : TruR a fun b => Q b l Os) : Wi C d env p RB (truthy v) l Os Q := by
  unfold TruR at hK
  split at hK
  · rename_i b
    refine Wi.keep (a := b) (fun X β h H A tk r => ?_) hK
    rw [is_bool (H.pend _ _ hv)]
    exact wpAny_truthy_bool ⟨h, tk, rfl, fun _ _ e => e, rfl⟩
  · exact hK.elim
end

inductive CmpI (K : AV → Prop) : CmpOp → AV → AV → Prop
  | eq {x y : Int} : K (.bool (x == y)) → CmpI K .Eq (.int x) (.int y)
  | ne {x y : Int} : K (.bool (x != y)) → CmpI K .NotEq (.int x) (.int y)
  | lt {x y : Int} : K (.bool (decide (x < y))) → CmpI K .Lt (.int x) (.int y)
  | gt {x y : Int} : K (.bool (decide (y < x))) → CmpI K .Gt (.int x) (.int y)
  | le {x y : Int} : K (.bool (decide (x ≤ y))) → CmpI K .LtE (.int x) (.int y)
  | ge {x y : Int} : K (.bool (decide (y ≤ x))) → CmpI K .GtE (.int x) (.int y)
  | eqb {x y : Bool} : K (.bool (x == y)) → CmpI K .Eq (.bool x) (.bool y)
  | neb {x y : Bool} : K (.bool (x != y)) → CmpI K .NotEq (.bool x) (.bool y)
noncomputable def CmpR (op : CmpOp) (a b : AV) (K : AV → Prop) : Prop := CmpI K op a b
theorem CmpR.mono {op : CmpOp} {a b : AV} {K K' : AV → Prop} (hk : ∀ c, K c → K' c) (H : CmpR op a b K) : CmpR op a b K' := by
  have H : CmpI K op a b := H
  cases H with
  | eq h => exact .eq (hk _ h)
  | ne h => exact .ne (hk _ h)
  | lt h => exact .lt (hk _ h)
  | gt h => exact .gt (hk _ h)
  | le h => exact .le (hk _ h)
  | ge h => exact .ge (hk _ h)
  | eqb h => exact .eqb (hk _ h)
  | neb h => exact .neb (hk _ h)

section
variable {C : Cx} {d : Nat} {env : Env} {p : List (Value × AV)} {l : List (Str × AV)} {Os : List AO} {Q : AV → List (Str × AV) → List AO → Prop}
theorem cmp_prim {op : CmpOp} {u v : Value} {a b : AV} (hu : (u, a) ∈ p) (hv : (v, b) ∈ p) (hK : CmpR op a b fun c => Q c l Os) : Wi C d env p RV (compareOp op u v) l Os Q := by
  have fin : ∀ (x y : Int) (k : Bool), a = .int x → b = .int y → Q (.bool k) l Os →
      (∀ (A : Around) (s : Shared) (t t' : Tok) (Q' : Value → Shared → Prop), Q' (.bool k) s → wpAny (model P0 C.w) A (compareOp op (.int x t) (.int y t')) Q' (fun _ _ => False) s) →
      Wi C d env p RV (compareOp op u v) l Os Q := by
    intro x y k ha hb hq hw
    subst ha; subst hb
    refine Wi.prim (x := .bool k) (fun X β h H A tk r Q' hQ' => ?_) hq
    obtain ⟨t, rfl⟩ := is_int (H.pend _ _ hu)
    obtain ⟨t', rfl⟩ := is_int (H.pend _ _ hv)
    exact hw A _ t t' Q' (hQ' _ _ _ (fun _ _ e => e) (.bool _))
  have finB : ∀ (x y : Bool) (k : Bool), a = .bool x → b = .bool y → Q (.bool k) l Os →
      (∀ (A : Around) (s : Shared) (Q' : Value → Shared → Prop), Q' (.bool k) s → wpAny (model P0 C.w) A (compareOp op (.bool x) (.bool y)) Q' (fun _ _ => False) s) →
      Wi C d env p RV (compareOp op u v) l Os Q := by
    intro x y k ha hb hq hw
    subst ha; subst hb
    refine Wi.prim (x := .bool k) (fun X β h H A tk r Q' hQ' => ?_) hq
    rw [is_bool (H.pend _ _ hu), is_bool (H.pend _ _ hv)]
    exact hw A _ Q' (hQ' _ _ _ (fun _ _ e => e) (.bool _))
  have hK : CmpI (fun c => Q c l Os) op a b := hK
  cases hK with
  | eq h => exact fin _ _ _ rfl rfl h fun A s t t' Q' h => eq_int h
  | ne h => exact fin _ _ _ rfl rfl h fun A s t t' Q' h => ne_int h
  | lt h => exact fin _ _ _ rfl rfl h fun A s t t' Q' h => lt_int h
  | gt h => exact fin _ _ _ rfl rfl h fun A s t t' Q' h => gt_int h
  | le h => exact fin _ _ _ rfl rfl h fun A s t t' Q' h => le_int h
  | ge h => exact fin _ _ _ rfl rfl h fun A s t t' Q' h => ge_int h
  | eqb h => exact finB _ _ _ rfl rfl h fun A s Q' h => eq_bool h
  | neb h => exact finB _ _ _ rfl rfl h fun A s Q' h => ne_bool h

theorem E_Compare {L : Expr} {op : CmpOp} {Rr : Expr} {pos : Pos} (hl : WE C d env L l Os (fun a l1 O1 => WE C d env Rr l1 O1 (fun b l2 O2 => CmpR op a b fun c => Q c l2 O2)))
    (hb : behindInMarks op Rr = false := by rfl) : WE C d env (.Compare L [op] [Rr] pos) l Os Q := fun p => by
  have e : eval (.Compare L [op] [Rr] pos) env = (eval L env >>= fun a => holding [a] (eval Rr env) >>= fun b => standAt pos >>= fun _ => operate [a, b] (compareOp op a b)) := by
    show (eval L env >>= fun a => compareChain pos a [op] (markedEach [op] [Rr] [eval Rr env])) = _
    simp only [markedEach, markedBehindIn, hb]
    rfl
  rw [e]
  refine Wi.bindV ((hl p).mono fun a l1 O1 h1 v => ?_)
  refine Wi.bindV (Wi.holding ((h1 ((v, a) :: p)).mono fun b l2 O2 h2 u => Wi.standAt (Wi.operate ?_)))
  exact cmp_prim (.tail _ (.head _)) (.head _) h2

theorem E_Not {x : Expr} {pos : Pos} (hx : WE C d env x l Os (fun a l1 O1 => TruR a fun b => Q (.bool !b) l1 O1)) : WE C d env (.UnaryOp .Not x pos) l Os Q := fun p => by
  show Wi C d env p RV (eval x env >>= fun v => standAt pos >>= fun _ => holding [v] (unaryOp .Not v)) l Os Q
  refine Wi.bindV ((hx p).mono fun a l1 O1 h1 v => Wi.standAt (Wi.holding ?_))
  unfold TruR at h1
  split at h1
  · rename_i b
    refine Wi.prim (x := .bool !b) (fun X β h H A tk r Q' hQ' => ?_) h1
    rw [is_bool (H.pend v _ (.head _))]
    exact not_of (wpAny_truthy_bool (hQ' _ _ _ (fun _ _ e => e) (.bool _)))
  · exact h1.elim

/-- v and w, where v is a bool -/
theorem E_And {x y : Expr} {pos : Pos} (hx : WE C d env x l Os (fun a l1 O1 => TruR a fun b => (b = true → WE C d env y l1 O1 Q) ∧ (b = false → Q a l1 O1))) : WE C d env (.BoolOp .And [x, y] pos) l Os Q := fun p => by
  have e : eval (.BoolOp .And [x, y] pos) env = (eval x env >>= fun v => standAt pos >>= fun _ => holding [v] (truthy v) >>= fun t => match t with | false => pure v | true => eval y env) := by
    refine congrArg (Bind.bind (eval x env)) (funext fun v => congrArg (Bind.bind (standAt pos)) (funext fun _ => congrArg (Bind.bind (holding [v] (truthy v))) (funext fun t => ?_)))
    cases t <;> rfl
  rw [e]
  refine Wi.bindV ((hx p).mono fun a l1 O1 h1 v => Wi.standAt ?_)
  unfold TruR at h1
  split at h1
  · rename_i b
    refine Wi.bindO (R := RB) (Wi.holding (truthy_prim (.head _) (show TruR (.bool b) _ from ?_)))
    intro t ⟨_, _, _, ht⟩
    rw [show t = b from ht]
    cases b with
    | true => exact h1.1 rfl _
    | false => exact Wi.ret (a := .bool false) (fun X β h H => H.pend v _ (.head _)) (h1.2 rfl)
  · exact h1.elim

theorem E_IfExp {t b o : Expr} {pos : Pos} (ht : WT C d env t l Os (fun c l1 O1 => (c = true → WE C d env b l1 O1 Q) ∧ (c = false → WE C d env o l1 O1 Q))) : WE C d env (.IfExp t b o pos) l Os Q := fun p => by
  show Wi C d env p RV (isTrue t env (eval t env) >>= fun c => if c = true then eval b env else eval o env) l Os Q
  refine Wi.bindO ((ht p).mono fun c l1 O1 h1 v hv => ?_)
  obtain ⟨_, _, _, hv⟩ := hv
  rw [show v = c from hv]
  cases c with
  | true => exact h1.1 rfl p
  | false => exact h1.2 rfl p

/-- a test by its value -/
theorem T_plain {e : Expr} {Q : Bool → List (Str × AV) → List AO → Prop} (he : WE C d env e l Os (fun a l1 O1 => TruR a fun b => Q b l1 O1))
    (hp : isTrue e env (eval e env) = (eval e env >>= fun v => standAt e.pos >>= fun _ => holding [v] (truthy v)) := by rfl) : WT C d env e l Os Q := fun p => by
  rw [hp]
  exact Wi.bindV ((he p).mono fun a l1 O1 h1 v => Wi.standAt (Wi.holding (truthy_prim (.head _) h1)))
theorem T_Compare {L : Expr} {op : CmpOp} {Rr : Expr} {pos : Pos} {Q : Bool → List (Str × AV) → List AO → Prop} (hl : WE C d env L l Os (fun a l1 O1 => WE C d env Rr l1 O1 (fun b l2 O2 => CmpR op a b fun c => TruR c fun t => Q t l2 O2)))
    (hb : behindInMarks op Rr = false := by rfl) : WT C d env (.Compare L [op] [Rr] pos) l Os Q := fun p => by
  have e : isTrue (.Compare L [op] [Rr] pos) env (eval (.Compare L [op] [Rr] pos) env) = (eval L env >>= fun a => holding [a] (eval Rr env) >>= fun b => standAt pos >>= fun _ => operate [a, b] (compareOp op a b) >>= fun c => holding [c] (truthy c)) := by
    show (eval L env >>= fun a => testChain pos a [op] (markedEach [op] [Rr] [eval Rr env])) = _
    simp only [markedEach, markedBehindIn, hb]
    rfl
  rw [e]
  refine Wi.bindV ((hl p).mono fun a l1 O1 h1 v => ?_)
  refine Wi.bindV (Wi.holding ((h1 ((v, a) :: p)).mono fun b l2 O2 h2 u => Wi.standAt ?_))
  refine Wi.bindV (Wi.operate (cmp_prim (.tail _ (.head _)) (.head _) ?_))
  exact CmpR.mono (fun c hc w => Wi.holding (truthy_prim (.head _) hc)) h2
theorem T_Not {x : Expr} {pos : Pos} {Q : Bool → List (Str × AV) → List AO → Prop} (hx : WT C d env x l Os (fun b l1 O1 => Q (!b) l1 O1)) : WT C d env (.UnaryOp .Not x pos) l Os Q := fun p => by
  show Wi C d env p RB (isTrue x env (eval x env) >>= fun b => pure (!b)) l Os Q
  refine Wi.bindO ((hx p).mono fun b l1 O1 h1 v hv => ?_)
  obtain ⟨_, _, _, hv⟩ := hv
  rw [show v = b from hv]
  exact Wi.ret (a := !b) (fun _ _ _ _ => rfl) h1
theorem T_And {x y : Expr} {pos : Pos} {Q : Bool → List (Str × AV) → List AO → Prop} (hx : WT C d env x l Os (fun b l1 O1 => (b = true → WT C d env y l1 O1 Q) ∧ (b = false → Q false l1 O1))) : WT C d env (.BoolOp .And [x, y] pos) l Os Q := fun p => by
  have e : isTrue (.BoolOp .And [x, y] pos) env (eval (.BoolOp .And [x, y] pos) env) = (isTrue x env (eval x env) >>= fun b => match b with | false => pure false | true => isTrue y env (eval y env) >>= fun b => match b with | false => pure false | true => pure true) := by
    refine congrArg (Bind.bind (isTrue x env (eval x env))) (funext fun b => ?_)
    cases b
    · rfl
    · show (isTrue y env (eval y env) >>= fun b => _) = _
      congr 1; funext b
      cases b <;> rfl
  rw [e]
  refine Wi.bindO ((hx p).mono fun b l1 O1 h1 v hv => ?_)
  obtain ⟨_, _, _, hv⟩ := hv
  rw [show v = b from hv]
  cases b with
  | false => exact Wi.ret (a := false) (fun _ _ _ _ => rfl) (h1.2 rfl)
  | true =>
    refine Wi.bindO ((h1.1 rfl p).mono fun b l2 O2 h2 u hu => ?_)
    obtain ⟨_, _, _, hu⟩ := hu
    rw [show u = b from hu]
    cases b with
    | false => exact Wi.ret (a := false) (fun _ _ _ _ => rfl) h2
    | true => exact Wi.ret (a := true) (fun _ _ _ _ => rfl) h2

theorem A_nil {pos : Pos} {Q : List AV → List (Str × AV) → List AO → Prop} (hQ : Q [] l Os) : WA C d env [] pos l Os Q := fun p =>
  Wi.ret (a := []) (fun _ _ _ _ => ⟨rfl, fun i v x e => by simp at e⟩) hQ
theorem A_cons {e : Expr} {es : List Expr} {pos : Pos} {Q : List AV → List (Str × AV) → List AO → Prop} (he : WE C d env e l Os (fun a l1 O1 => WA C d env es pos l1 O1 (fun as l2 O2 => Q (a :: as) l2 O2)))
    (hs : starEach (e :: es) env = (false, eval e env) :: starEach es env := by rfl) : WA C d env (e :: es) pos l Os Q := fun p => by
  have e' : spliced (backTo pos (starEach (e :: es) env)) = (eval e env >>= fun v => holding [v] (spliced (backTo pos (starEach es env))) >>= fun vs => pure (v :: vs)) := by
    rw [hs]; rfl
  rw [e']
  refine Wi.bindV ((he p).mono fun a l1 O1 h1 v => ?_)
  intro X β h H
  refine Wp.bind ((Wi.holding (h1 ((v, a) :: p)) X β h H).mono fun vs h' zz => Wp.pure ?_)
  obtain ⟨β', as, l2, O2, g1, g2, g3, g4, g5⟩ := zz
  refine ⟨β', a :: as, l2, O2, g1, g2, g3, ⟨by simp [g4.1], fun i u x eu ex => ?_⟩, g5⟩
  cases i with
  | zero =>
    simp only [List.getElem?_cons_zero, Option.some.injEq] at eu ex
    subst eu; subst ex
    exact g1.pend _ _ (.head _)
  | succ i => exact g4.2 i u x (by simpa using eu) (by simpa using ex)
end
-- M3
theorem OIs.stable {C : Cx} {F F' : Addr → Prop} {β β' : List Addr} {h h' : Heap} {a : Addr} {o : AO} (H : OIs C F β h a o) (ha : ∀ o, h.get? a = some o → h'.get? a = some o)
    (hk : ∀ b o, ¬ F b → h.get? b = some o → h'.get? b = some o) (hF : ∀ b o, ¬ F b → h.get? b = some o → ¬ F' b)
    (hβ : ∀ (i : Nat) a, β[i]? = some a → β'[i]? = some a) : OIs C F' β' h' a o := by
  cases o with
  | lst xs => obtain ⟨vs, ⟨n, h1⟩, h2, h3⟩ := H; exact ⟨vs, ⟨n, ha _ h1⟩, h2, fun i v x e e' => (h3 i v x e e').stable hk hF hβ⟩
  | fix xs => obtain ⟨vs, ⟨ol, h1, hr⟩, h2, h3⟩ := H; exact ⟨vs, ⟨ol, ha _ h1, hr⟩, h2, fun i v x e e' => (h3 i v x e e').stable hk hF hβ⟩
  | dct es =>
    obtain ⟨xs, ⟨o, es', ep, ho, hx, hda, he, hi, hn⟩, hks, hl, hes⟩ := H
    refine ⟨xs, ⟨o, es', ep, ha _ ho, hx, hda, he, fun x hx => ?_, hn⟩, fun x hx => ?_, hl, hes⟩
    · obtain ⟨o', items, n, ho', r⟩ := hi x hx
      exact ⟨o', items, n, hk _ o' (hks x hx) ho', r⟩
    · obtain ⟨o', items, n, ho', r⟩ := hi x hx
      exact hF _ o' (hks x hx) ho'

theorem Ns_uniq {h : Heap} {a : Addr} {m m' : Str → Option Value} (x : h.Ns a m) (y : h.Ns a m') : m = m' := by
  obtain ⟨o, es, ep, ho, hd, _, hm⟩ := x
  obtain ⟨o', es', ep', ho', hd', _, hm'⟩ := y
  rw [ho] at ho'; cases ho'
  rw [hd] at hd'; cases hd'
  funext x; rw [← hm, ← hm']

section
variable {C : Cx} {d : Nat} {env : Env} {p : List (Value × AV)} {l : List (Str × AV)} {Os : List AO} {X : Addr → Prop} {β : List Addr} {h h' : Heap}

theorem Hold.own_ne (H : Hold C X env l β Os p h) {i : Nat} {a : Addr} (ha : β[i]? = some a) : a ≠ env.locals ∧ a ∉ ownCells env := by
  have hm : a ∈ β := List.mem_of_getElem? ha
  have := H.nd
  unfold mine at this
  rw [List.nodup_cons, List.nodup_append] at this
  refine ⟨fun e => this.1 (e ▸ List.mem_append_right _ hm), fun hc => this.2.2.2 a hc a hm rfl⟩

theorem Hold.cell_ne (H : Hold C X env l β Os p h) {x : Str} {c : Addr} (hc : env.cells.lookup x = some c) : c ≠ env.locals ∧ c ∉ β := by
  have hn := H.nd
  unfold mine at hn
  rw [List.nodup_cons, List.nodup_append] at hn
  rcases (H.cl x c hc).1 with h1 | h1
  · exact ⟨fun e => hn.1 (e ▸ List.mem_append_left _ h1), fun hb => hn.2.2.2 c h1 c hb rfl⟩
  · refine ⟨fun e => ?_, fun hb => ?_⟩
    · exact (H.new env.locals (List.mem_cons_self ..)).2.1 (e ▸ h1)
    · exact (H.new c (List.mem_cons_of_mem _ (List.mem_append_right _ hb))).2.1 h1

/-- what changes one of the frame's own things alone keeps the rest -/
theorem Hold.rest {a0 : Addr} (H : Hold C X env l β Os p h) (h0 : a0 ∈ mine env β) (hk : ∀ b o, b ≠ a0 → h.get? b = some o → h'.get? b = some o) {v : Value} {x : AV} (hi : Is C (Fb X env β) β h v x) :
    Is C (Fb X env β) β h' v x := hi.stable (fun b o hb e => hk b o (fun q => hb (.inr (q ▸ h0))) e) (fun b o hb _ => hb) fun _ _ e => e

/-- a store into a local name -/
theorem Hold.setLocal {x : Str} {v : Value} {av : AV} {m : Str → Option Value} (H : Hold C X env l β Os p h) (hx : env.kindOf x = some .local) (hm : h.Ns env.locals m)
    (hm' : h'.Ns env.locals (fun y => if y = x then some v else m y)) (hs : Heap.SameBut env.locals h h') (hv : Is C (Fb X env β) β h v av) : Hold C X env ((x, av) :: l) β Os p h' := by
  have h0 : env.locals ∈ mine env β := List.mem_cons_self ..
  have hk : ∀ b o, b ≠ env.locals → h.get? b = some o → h'.get? b = some o := fun b o hb e => (hs.2 b hb).trans e
  have hL : C.s.heap.get? env.locals = none := (H.new _ h0).1
  have hc : ∀ y c, env.cells.lookup y = some c → ∀ u, h.IsCell c u → h'.IsCell c u := fun y c e u hu => hu.sameBut hs (H.cell_ne e).1
  refine ⟨H.ok, fun b o e => hk b o (fun q => by rw [q, hL] at e; cases e) (H.base b o e), fun a ha => ?_, H.nd, fun a ha => ?_, ⟨_, hm'⟩, fun y c e => ?_, H.cown, H.capart, fun y au e => ?_, H.len, fun i a o ha ho => ?_, fun u au hu => H.rest h0 hk (H.pend u au hu)⟩
  · obtain ⟨h1, o, h2⟩ := H.xin a ha
    exact ⟨h1, o, hk a o (fun q => (H.new _ h0).2.1 (q ▸ ha)) h2⟩
  · obtain ⟨h1, h2, o, h3⟩ := H.new a ha
    by_cases q : a = env.locals
    · obtain ⟨o', _, _, ho', _⟩ := hm'
      exact ⟨h1, h2, o', q ▸ ho'⟩
    · exact ⟨h1, h2, o, hk a o q h3⟩
  · obtain ⟨h1, u, h2⟩ := H.cl y c e
    exact ⟨h1, u, hc y c e u h2⟩
  · rw [List.lookup_cons] at e
    by_cases q : y == x
    · rw [q] at e; cases e
      have q' : y = x := by simpa using q
      exact ⟨v, .inl ⟨q' ▸ hx, _, hm', by simp [q']⟩, H.rest h0 hk hv⟩
    · have q' : y ≠ x := by simpa using q
      rw [show (y == x) = false by simpa using q] at e
      obtain ⟨u, hu, hi⟩ := H.vars y au e
      refine ⟨u, ?_, H.rest h0 hk hi⟩
      rcases hu with ⟨k, m₂, hm₂, hy⟩ | ⟨k, c, hc', hy⟩
      · obtain rfl := Ns_uniq hm hm₂
        exact .inl ⟨k, _, hm', by simp [q', hy]⟩
      · exact .inr ⟨k, c, hc', hc y c hc' _ hy⟩
  · exact (H.objs i a o ha ho).stable (fun o' e => hk a o' (H.own_ne ha).1 e) (fun b o hb e => hk b o (fun q => hb (.inr (q ▸ h0))) e) (fun b o hb _ => hb) fun _ _ e => e

theorem Hold.setCell {x : Str} {c : Addr} {v : Value} {av : AV} (H : Hold C X env l β Os p h) (hx : env.kindOf x = some .cell) (hc : env.cells.lookup x = some c)
    (hv' : h'.IsCell c (some v)) (hs : Heap.SameBut c h h') (hv : Is C (Fb X env β) β h v av) : Hold C X env ((x, av) :: l) β Os p h' := by
  have hcm := H.cown x c hc hx
  have h0 : c ∈ mine env β := List.mem_cons_of_mem _ (List.mem_append_left _ hcm)
  have hk : ∀ b o, b ≠ c → h.get? b = some o → h'.get? b = some o := fun b o hb e => (hs.2 b hb).trans e
  have hL : C.s.heap.get? c = none := (H.new _ h0).1
  obtain ⟨m, hm⟩ := H.ns
  have hm' : h'.Ns env.locals m := hm.sameBut hs (H.cell_ne hc).1.symm
  refine ⟨H.ok, fun b o e => hk b o (fun q => by rw [q, hL] at e; cases e) (H.base b o e), fun a ha => ?_, H.nd, fun a ha => ?_, ⟨_, hm'⟩, fun y c' e => ?_, H.cown, H.capart, fun y au e => ?_, H.len, fun i a o ha ho => ?_, fun u au hu => H.rest h0 hk (H.pend u au hu)⟩
  · obtain ⟨h1, o, h2⟩ := H.xin a ha
    exact ⟨h1, o, hk a o (fun q => (H.new _ h0).2.1 (q ▸ ha)) h2⟩
  · obtain ⟨h1, h2, o, h3⟩ := H.new a ha
    by_cases q : a = c
    · obtain ⟨o', ho', _⟩ := hv'
      exact ⟨h1, h2, o', q ▸ ho'⟩
    · exact ⟨h1, h2, o, hk a o q h3⟩
  · obtain ⟨h1, u, h2⟩ := H.cl y c' e
    by_cases q : c' = c
    · exact ⟨h1, some v, q ▸ hv'⟩
    · exact ⟨h1, u, h2.sameBut hs q⟩
  · rw [List.lookup_cons] at e
    by_cases q : y == x
    · rw [q] at e; cases e
      have q' : y = x := by simpa using q
      exact ⟨v, .inr ⟨.inl (q' ▸ hx), c, q' ▸ hc, hv'⟩, H.rest h0 hk hv⟩
    · have q' : y ≠ x := by simpa using q
      rw [show (y == x) = false by simpa using q] at e
      obtain ⟨u, hu, hi⟩ := H.vars y au e
      refine ⟨u, ?_, H.rest h0 hk hi⟩
      rcases hu with ⟨k, m₂, hm₂, hy⟩ | ⟨k, c', hc', hy⟩
      · exact .inl ⟨k, m₂, hm₂.sameBut hs (H.cell_ne hc).1.symm, hy⟩
      · exact .inr ⟨k, c', hc', hy.sameBut hs fun q => q' (H.capart y x c (q ▸ hc') hc)⟩
  · exact (H.objs i a o ha ho).stable (fun o' e => hk a o' (fun q => (H.cell_ne hc).2 (q ▸ List.mem_of_getElem? ha)) e) (fun b o hb e => hk b o (fun q => hb (.inr (q ▸ h0))) e) (fun b o hb _ => hb) fun _ _ e => e

theorem nodup_get {β : List Addr} (hn : β.Nodup) {i j : Nat} {a : Addr} (hi : β[i]? = some a) (hj : β[j]? = some a) : i = j := by
  obtain ⟨h1, e1⟩ := List.getElem?_eq_some_iff.mp hi
  obtain ⟨h2, e2⟩ := List.getElem?_eq_some_iff.mp hj
  exact (List.getElem_inj hn).mp (e1.trans e2.symm)

/-- a change of one of the frame's own objects -/
theorem Hold.setOwn {i : Nat} {a : Addr} {o o' : AO} (H : Hold C X env l β Os p h) (ha : β[i]? = some a) (ho : Os[i]? = some o) (hs : Heap.SameBut a h h')
    (ho' : OIs C (Fb X env β) β h' a o') : Hold C X env l β (Os.set i o') p h' := by
  have h0 : a ∈ mine env β := List.mem_cons_of_mem _ (List.mem_append_right _ (List.mem_of_getElem? ha))
  have hk : ∀ b o, b ≠ a → h.get? b = some o → h'.get? b = some o := fun b o hb e => (hs.2 b hb).trans e
  have hL : C.s.heap.get? a = none := (H.new _ h0).1
  obtain ⟨m, hm⟩ := H.ns
  have hm' : h'.Ns env.locals m := hm.sameBut hs (H.own_ne ha).1.symm
  have hnb : β.Nodup := by
    have := H.nd
    unfold mine at this
    rw [List.nodup_cons, List.nodup_append] at this
    exact this.2.2.1
  have hob : ∃ ob, h'.get? a = some ob := by
    cases o' with
    | lst xs => obtain ⟨vs, ⟨n, h1⟩, _⟩ := ho'; exact ⟨_, h1⟩
    | fix xs => obtain ⟨vs, ⟨ol, h1, _⟩, _⟩ := ho'; exact ⟨_, h1⟩
    | dct es => obtain ⟨xs, ⟨o, es', ep, h1, _⟩, _⟩ := ho'; exact ⟨_, h1⟩
  refine ⟨H.ok, fun b o e => hk b o (fun q => by rw [q, hL] at e; cases e) (H.base b o e), fun b hb => ?_, H.nd, fun b hb => ?_, ⟨_, hm'⟩, fun y c' e => ?_, H.cown, H.capart, fun y au e => ?_, by rw [List.length_set]; exact H.len, fun j b o₂ hb ho₂ => ?_, fun u au hu => H.rest h0 hk (H.pend u au hu)⟩
  · obtain ⟨h1, o, h2⟩ := H.xin b hb
    exact ⟨h1, o, hk b o (fun q => (H.new _ h0).2.1 (q ▸ hb)) h2⟩
  · obtain ⟨h1, h2, o, h3⟩ := H.new b hb
    by_cases q : b = a
    · exact ⟨h1, h2, q ▸ hob⟩
    · exact ⟨h1, h2, o, hk b o q h3⟩
  · obtain ⟨h1, u, h2⟩ := H.cl y c' e
    exact ⟨h1, u, h2.sameBut hs fun q => (H.cell_ne e).2 (q ▸ List.mem_of_getElem? ha)⟩
  · obtain ⟨u, hu, hi⟩ := H.vars y au e
    refine ⟨u, ?_, H.rest h0 hk hi⟩
    rcases hu with ⟨k, m₂, hm₂, hy⟩ | ⟨k, c', hc', hy⟩
    · exact .inl ⟨k, m₂, hm₂.sameBut hs (H.own_ne ha).1.symm, hy⟩
    · exact .inr ⟨k, c', hc', hy.sameBut hs fun q => (H.cell_ne hc').2 (q ▸ List.mem_of_getElem? ha)⟩
  · by_cases q : j = i
    · subst q
      rw [ha] at hb; cases hb
      have hl : j < Os.length := (List.getElem?_eq_some_iff.mp ho).1
      rw [List.getElem?_set_self hl] at ho₂; cases ho₂
      exact ho'
    · rw [List.getElem?_set_ne (Ne.symm q)] at ho₂
      have hne : b ≠ a := fun e => q (nodup_get hnb (e ▸ hb) ha)
      exact (H.objs j b o₂ hb ho₂).stable (fun o' e => hk b o' hne e) (fun b o hb e => hk b o (fun q => hb (.inr (q ▸ h0))) e) (fun b o hb _ => hb) fun _ _ e => e

/-- a new object of the frame's own -/
theorem Hold.addOwn {a : Addr} {o : AO} (H : Hold C X env l β Os p h) (hk : ∀ b o, h.get? b = some o → h'.get? b = some o) (ha : h.get? a = none) (hb : C.s.heap.get? a = none)
    (ho : ∀ (F' : Addr → Prop) β', (∀ {v x}, Is C (Fb X env β) β h v x → Is C F' β' h' v x) → OIs C F' β' h' a o) : Hold C X env l (β ++ [a]) (Os ++ [o]) p h' ∧ Is C (Fb X env (β ++ [a])) (β ++ [a]) h' (.ref a) (.own Os.length) := by
  have hnm : a ∉ mine env β := fun hm => by obtain ⟨_, _, o, e⟩ := H.new a hm; rw [ha] at e; cases e
  have hnX : ¬ X a := fun hx => by obtain ⟨_, o, e⟩ := H.xin a hx; rw [ha] at e; cases e
  have hob : ∃ ob, h'.get? a = some ob := by
    have ho := ho (Fb X env β) β fun hi => hi.stable (fun b o _ e => hk b o e) (fun b o hb _ => hb) fun _ _ e => e
    cases o with
    | lst xs => obtain ⟨vs, ⟨n, h1⟩, _⟩ := ho; exact ⟨_, h1⟩
    | fix xs => obtain ⟨vs, ⟨ol, h1, _⟩, _⟩ := ho; exact ⟨_, h1⟩
    | dct es => obtain ⟨xs, ⟨o, es', ep, h1, _⟩, _⟩ := ho; exact ⟨_, h1⟩
  have H' := H.keeps hk
  have st : ∀ {v x}, Is C (Fb X env β) β h v x → Is C (Fb X env (β ++ [a])) (β ++ [a]) h' v x := fun hi =>
    is_later hi (fun b o e _ => hk b o e) fun b hb => by rw [List.mem_singleton.mp hb]; exact ha
  -- what lay in the heap before the new object lies apart from it; the new one's items too
  have stN : ∀ {b : Addr} {o : AO}, OIs C (Fb X env β) β h b o → OIs C (Fb X env (β ++ [a])) (β ++ [a]) h' b o := fun hi =>
    hi.stable (fun o e => hk _ o e) (fun b o _ e => hk b o e) (fun b o hb e hx => by
      rcases hx with hx | hx
      · exact hb (.inl hx)
      · rw [mine_append] at hx
        rcases List.mem_append.mp hx with hx | hx
        · exact hb (.inr hx)
        · rw [List.mem_singleton.mp hx, ha] at e; cases e) get_append
  refine ⟨⟨H.ok, H'.base, H'.xin, ?_, fun b hb' => ?_, H'.ns, H'.cl, H.cown, H.capart, fun y au e => ?_, by simp [H.len], fun i b o₂ hb' ho₂ => ?_, fun u au hu => st (H.pend u au hu)⟩, .own _ _ (by rw [← H.len]; simp)⟩
  · rw [mine_append, List.nodup_append]
    exact ⟨H.nd, by simp, fun b hb c hc q => hnm (by rw [List.mem_singleton.mp hc] at q; exact q ▸ hb)⟩
  · rw [mine_append] at hb'
    rcases List.mem_append.mp hb' with hb' | hb'
    · exact H'.new b hb'
    · rw [List.mem_singleton.mp hb']; exact ⟨hb, hnX, hob⟩
  · obtain ⟨u, hu, hi⟩ := H.vars y au e
    refine ⟨u, ?_, st hi⟩
    rcases hu with ⟨k, m₂, hm₂, hy⟩ | ⟨k, c', hc', hy⟩
    · exact .inl ⟨k, m₂, hm₂.keeps hk, hy⟩
    · exact .inr ⟨k, c', hc', hy.keeps hk⟩
  · by_cases q : i < β.length
    · rw [List.getElem?_append_left q] at hb'
      rw [List.getElem?_append_left (H.len ▸ q)] at ho₂
      exact stN (H.objs i b o₂ hb' ho₂)
    · rw [List.getElem?_append_right (Nat.not_lt.mp q)] at hb'
      rw [List.getElem?_append_right (H.len ▸ Nat.not_lt.mp q), ← H.len] at ho₂
      cases hj : i - β.length with
      | succ n => rw [hj] at hb'; simp at hb'
      | zero =>
        rw [hj] at hb' ho₂
        simp only [List.getElem?_cons_zero, Option.some.injEq] at hb' ho₂
        subst hb'; subst ho₂
        exact ho _ _ st
end
-- M4
/-- the items of a sequence -/
noncomputable def seqA : AO → Option (List AV)
  | .lst xs => some xs
  | .fix xs => some xs
  | _ => none
noncomputable def SeqOf (Os : List AO) : AV → Option (List AV)
  | .list xs => some xs
  | .tup xs => some xs
  | .own j => Os[j]?.bind seqA
  | _ => none
noncomputable def pick (xs : List AV) (k : Int) : Option AV := if 0 ≤ k then xs[k.toNat]? else if -(xs.length : Int) ≤ k then xs[(k + xs.length).toNat]? else none

section
variable {C : Cx} {d : Nat} {env : Env} {p : List (Value × AV)} {l : List (Str × AV)} {Os : List AO} {X : Addr → Prop} {β : List Addr} {h h' : Heap} {Q : AV → List (Str × AV) → List AO → Prop}

theorem Hold.own (H : Hold C X env l β Os p h) {i : Nat} {o : AO} (ho : Os[i]? = some o) : ∃ a, β[i]? = some a ∧ OIs C (Fb X env β) β h a o := by
  have hl : i < β.length := by rw [H.len]; exact (List.getElem?_eq_some_iff.mp ho).1
  exact ⟨β[i], List.getElem?_eq_getElem hl, H.objs i _ o (List.getElem?_eq_getElem hl) ho⟩

/-- a sequence is a list or a tuple of the heap -/
theorem Hold.seq (H : Hold C X env l β Os p h) {v : Value} {a : AV} {xs : List AV} (hv : Is C (Fb X env β) β h v a) (hs : SeqOf Os a = some xs) :
    ∃ b vs, v = .ref b ∧ IsL C (Fb X env β) β h vs xs ∧ (h.IsList b vs.toArray ∨ ((∃ ys, a = .tup ys) ∧ IsTup h b vs.toArray)) := by
  cases hv with
  | tup hf ht hl hx => cases hs; exact ⟨_, _, rfl, ⟨hl, hx⟩, .inr ⟨⟨_, rfl⟩, ht⟩⟩
  | list hf ht hl hx => cases hs; exact ⟨_, _, rfl, ⟨hl, hx⟩, .inl ht⟩
  | own i b hb =>
    have hs : Os[i]?.bind seqA = some xs := hs
    cases ho : Os[i]? with
    | none => rw [ho] at hs; cases hs
    | some o =>
      rw [ho] at hs
      have hi := H.objs i b o hb ho
      cases o with
      | lst ys => cases hs; obtain ⟨vs, hp, hl⟩ := hi; exact ⟨b, vs, rfl, hl, .inl hp.isList⟩
      | fix ys => cases hs; obtain ⟨vs, hp, hl⟩ := hi; exact ⟨b, vs, rfl, hl, .inl hp⟩
      | dct es => cases hs
  | _ => cases hs

theorem IsL.get {F : Addr → Prop} {vs : List Value} {xs : List AV} (hl : IsL C F β h vs xs) {i : Nat} {x : AV} (hx : xs[i]? = some x) : ∃ v, vs[i]? = some v ∧ Is C F β h v x := by
  have hi : i < vs.length := by rw [hl.1]; exact (List.getElem?_eq_some_iff.mp hx).1
  exact ⟨vs[i], List.getElem?_eq_getElem hi, hl.2 i _ x (List.getElem?_eq_getElem hi) hx⟩

theorem item_prim {value slice : Expr} {o i : Value} {a : AV} {xs : List AV} {k : Int} {x : AV} (ho : (o, a) ∈ p) (hi : (i, .int k) ∈ p) (hs : SeqOf Os a = some xs) (hk : -(2 ^ 62) < k ∧ k < 2 ^ 62) (hx : pick xs k = some x) (hq : Q x l Os)
    (hsub : ∀ o i, subscripted slice false o i = PySem.operate [o, i] (getItem o i) := by intros; rfl) : Wi C d env p RV (subscriptTail value slice o i) l Os Q := by
  refine Wi.prim (x := x) (fun X β h H A tk r Q' hQ' => ?_) hq
  obtain ⟨t, rfl⟩ := is_int (H.pend _ _ hi)
  obtain ⟨b, vs, rfl, hl, hkind⟩ := H.seq (H.pend _ _ ho) hs
  have hlen : vs.toArray.size = xs.length := by rw [List.size_toArray, hl.1]
  unfold pick at hx
  rcases hkind with hL | ⟨_, hT⟩
  · by_cases h0 : 0 ≤ k
    · rw [if_pos h0] at hx
      obtain ⟨v, hv, hi'⟩ := hl.get hx
      exact tail_any (Heap.IsList.typeIs hL) slot_list_getitem.lookup (wpAny_getItem_list hL h0 (by lia  ) (by simpa using hv) (hQ' v h tk (fun _ _ e => e) hi')) (hsub _ _)
    · rw [if_neg h0] at hx
      by_cases h1 : -(xs.length : Int) ≤ k
      · rw [if_pos h1] at hx
        obtain ⟨v, hv, hi'⟩ := hl.get hx
        exact tail_any (Heap.IsList.typeIs hL) slot_list_getitem.lookup (wpAny_getItem_list_neg hL (by lia  ) (by rw [hlen]; exact h1) (by lia  ) (by rw [hlen]; simpa using hv) (hQ' v h tk (fun _ _ e => e) hi')) (hsub _ _)
      · rw [if_neg h1] at hx; cases hx
  · by_cases h0 : 0 ≤ k
    · rw [if_pos h0] at hx
      obtain ⟨v, hv, hi'⟩ := hl.get hx
      have hj : seqIndex? k vs.length = some k.toNat := by
        have := (List.getElem?_eq_some_iff.mp hv).1
        unfold seqIndex?
        simp only [show ¬ k < 0 by lia  , if_false, Bool.and_eq_true, decide_eq_true_eq]
        rw [if_pos ⟨h0, by lia  ⟩]
      exact item_tupleT hT (by lia  ) (by lia  ) hj hv (hQ' v h tk (fun _ _ e => e) hi') (hsub _ _)
    · rw [if_neg h0] at hx
      by_cases h1 : -(xs.length : Int) ≤ k
      · rw [if_pos h1] at hx
        obtain ⟨v, hv, hi'⟩ := hl.get hx
        have hj : seqIndex? k vs.length = some (k + xs.length).toNat := by
          unfold seqIndex?
          rw [hl.1]
          simp only [show k < 0 by lia  , if_true, Bool.and_eq_true, decide_eq_true_eq]
          rw [if_pos ⟨by lia  , by lia  ⟩]
        exact item_tupleT hT (by lia  ) (by lia  ) hj hv (hQ' v h tk (fun _ _ e => e) hi') (hsub _ _)
      · rw [if_neg h1] at hx; cases hx

theorem E_Subscript {value slice : Expr} {pos : Pos} (hv : WE C d env value l Os (fun a l1 O1 => WE C d env slice l1 O1 (fun i l2 O2 => ∃ xs k x, SeqOf O2 a = some xs ∧ i = .int k ∧ (-(2 ^ 62) < k ∧ k < 2 ^ 62) ∧ pick xs k = some x ∧ Q x l2 O2)))
    (hsub : ∀ o i, subscripted slice false o i = PySem.operate [o, i] (getItem o i) := by intros; rfl) : WE C d env (.Subscript value slice pos) l Os Q := fun p => by
  show Wi C d env p RV (eval value env >>= fun o => holding [o] (eval slice env) >>= fun i => standAt pos >>= fun _ => subscriptTail value slice o i) l Os Q
  refine Wi.bindV ((hv p).mono fun a l1 O1 h1 o => ?_)
  refine Wi.bindV (Wi.holding ((h1 ((o, a) :: p)).mono fun i l2 O2 zz u => Wi.standAt ?_))
  obtain ⟨xs, k, x, h2, h3, h4, h5, h6⟩ := zz
  subst h3
  exact item_prim (.tail _ (.head _)) (.head _) h2 h4 h5 h6 hsub

theorem push_get {g : Heap} (ob : Obj) : ∀ b o, g.get? b = some o → (g.push ob).get? b = some o := fun _ _ e => Heap.get?_push_of_some _ e

theorem slice_prim {value : Expr} {lo up : Option Expr} {sp : Pos} {o i : Value} {a : AV} {xs ys : List AV} {pl pu : Option Int} (ho : (o, a) ∈ p) (hi : (i, .slc pl pu) ∈ p) (ht : ∀ zs, a ≠ .tup zs) (hs : SeqOf Os a = some xs)
    (hy : ∀ vs : List Value, vs.length = xs.length → ∃ f : List Nat, (slicePick vs.toArray pl pu none).toList = f.filterMap (vs[·]?) ∧ ys = f.filterMap (xs[·]?) ∧ ∀ i ∈ f, i < xs.length) (hsz : xs.length ≤ 10000) (hq : Q (.list ys) l Os) :
    Wi C d env p RV (subscriptTail value (.Slice lo up none sp) o i) l Os Q := by
  refine Wi.prim (x := .list ys) (fun X β h H A tk r Q' hQ' => ?_) hq
  obtain ⟨b, vs, rfl, hlv, hkind⟩ := H.seq (H.pend _ _ ho) hs
  have his := H.pend _ _ hi
  cases his with
  | @slc sa vl vu _ _ hfs hgs hl hu =>
  rcases hkind with hL | ⟨⟨zs, e⟩, _⟩
  · obtain ⟨f, hf1, hf2, hf3⟩ := hy vs hlv.1
    refine tail_any (Heap.IsList.typeIs hL) slot_list_getitem.lookup (wpAny_getItem_list_slice (vl := vl) (vu := vu) (vs := .none) (lo := pl) (hi := pu) (st := none) hL ⟨_, hgs, rfl, rfl⟩ ?_ ?_ .none (by decide) ?_ (by rw [List.size_toArray, hlv.1]; exact Nat.le_trans hsz (by decide +kernel))) (by rfl)
    · cases pl with
      | none => cases hl; exact .none
      | some i => obtain ⟨t, rfl⟩ := hl; exact .int _ _
    · cases pu with
      | none => cases hu; exact .none
      | some i => obtain ⟨t, rfl⟩ := hu; exact .int _ _
    · refine hQ' _ _ _ (push_get _) ?_
      refine .list (vs := (slicePick vs.toArray pl pu none).toList) H.freshSize ⟨_, Heap.get?_push_size _ rfl, rfl, 0, by rw [Array.toArray_toList]⟩ ?_ fun i v x ev ex => ?_
      · rw [hf1, hf2]
        clear hq hQ' hf1 hf2
        induction f with
        | nil => rfl
        | cons j f ih =>
          have hj := hf3 j (List.mem_cons_self ..)
          rw [List.filterMap_cons_some (List.getElem?_eq_getElem hj), List.filterMap_cons_some (List.getElem?_eq_getElem (hlv.1.symm ▸ hj)), List.length_cons, List.length_cons, ih fun i hi => hf3 i (List.mem_cons_of_mem _ hi)]
      · rw [hf1] at ev
        rw [hf2] at ex
        have : ∀ (f : List Nat) (i : Nat), (∀ j ∈ f, j < xs.length) → (f.filterMap (vs[·]?))[i]? = some v → (f.filterMap (xs[·]?))[i]? = some x → ∃ j : Nat, vs[j]? = some v ∧ xs[j]? = some x := by
          intro f
          induction f with
          | nil => intro i _ e; simp at e
          | cons j f ih =>
            intro i hf ev ex
            have hj := hf j (List.mem_cons_self ..)
            rw [List.filterMap_cons_some (List.getElem?_eq_getElem (hlv.1.symm ▸ hj))] at ev
            rw [List.filterMap_cons_some (List.getElem?_eq_getElem hj)] at ex
            cases i with
            | zero =>
              simp only [List.getElem?_cons_zero, Option.some.injEq] at ev ex
              exact ⟨j, by rw [← ev]; exact List.getElem?_eq_getElem (hlv.1.symm ▸ hj), by rw [← ex]; exact List.getElem?_eq_getElem hj⟩
            | succ i => exact ih i (fun j hj => hf j (List.mem_cons_of_mem _ hj)) (by simpa using ev) (by simpa using ex)
        obtain ⟨j, h1, h2⟩ := this f i hf3 ev ex
        exact (hlv.2 j v x h1 h2).stable (fun b o _ e => push_get _ _ _ e) (fun b o hb _ => hb) fun _ _ e => e
  · exact absurd e (ht zs)

theorem take_fm {α : Type} (vs : List α) (k : Nat) : vs.take k = (List.range (min k vs.length)).filterMap (vs[·]?) := by
  induction vs generalizing k with
  | nil => simp
  | cons v vs ih =>
    cases k with
    | zero => simp
    | succ k =>
      rw [List.take_succ_cons, List.length_cons, Nat.succ_min_succ, List.range_succ_eq_map, List.filterMap_cons_some (by rfl), ih k, List.filterMap_map]
      congr 1
theorem drop_fm {α : Type} (vs : List α) (k : Nat) : vs.drop k = ((List.range (vs.length - k)).map (· + k)).filterMap (vs[·]?) := by
  induction k generalizing vs with
  | zero =>
    have := take_fm vs vs.length
    rw [List.take_length, Nat.min_self] at this
    simpa using this
  | succ k ih =>
    cases vs with
    | nil => simp
    | cons v vs =>
      rw [List.drop_succ_cons, ih vs, List.length_cons, Nat.add_sub_add_right, List.filterMap_map, List.filterMap_map]
      congr 1

theorem newSlice_prim {vl vu : Value} {pl pu : Option Int} (hl : PartIs pl vl) (hu : PartIs pu vu) (hq : Q (.slc pl pu) l Os) : Wi C d env p RV (newFields "slice" [vl, vu, .none]) l Os Q :=
  Wi.prim (x := .slc pl pu) (fun X β h H A tk r Q' hQ' => wpAny_newObj_type (hQ' _ _ _ (push_get _) (.slc H.freshSize (Heap.get?_push_size _ rfl) hl hu))) hq
noncomputable def partOf : AV → Option (Option Int)
  | .none => some none
  | .int k => some (some k)
  | _ => none
theorem part_is {F : Addr → Prop} {v : Value} {a : AV} {pl : Option Int} (H : Is C F β h v a) (e : partOf a = some pl) : PartIs pl v := by
  cases H <;> first | (cases e; rfl) | (cases e; exact ⟨_, rfl⟩) | cases e
noncomputable def WP (C : Cx) (d : Nat) (env : Env) (e : Option Expr) (l : List (Str × AV)) (Os : List AO) (Q : AV → List (Str × AV) → List AO → Prop) : Prop := ∀ p, Wi C d env p RV (valueOrNone (evalOpt e env)) l Os Q
theorem P_none (hq : Q .none l Os) : WP C d env none l Os Q := fun p => Wi.ret (a := .none) (fun _ _ _ _ => .none) hq
theorem P_some {e : Expr} (he : WE C d env e l Os Q) : WP C d env (some e) l Os Q := fun p => he p
theorem E_Slice {lo up : Option Expr} {sp : Pos} (hl : WP C d env lo l Os (fun a l1 O1 => WP C d env up l1 O1 (fun b l2 O2 => ∃ pl pu, partOf a = some pl ∧ partOf b = some pu ∧ Q (.slc pl pu) l2 O2))) : WE C d env (.Slice lo up none sp) l Os Q := fun p => by
  show Wi C d env p RV (valueOrNone (evalOpt lo env) >>= fun vl => holding [vl] (valueOrNone (evalOpt up env)) >>= fun vu => holding [vl, vu] (valueOrNone (evalOpt none env)) >>= fun vs => newFields "slice" [vl, vu, vs]) l Os Q
  refine Wi.bindV ((hl p).mono fun a l1 O1 h1 v => ?_)
  refine Wi.bindV (Wi.holding ((h1 ((v, a) :: p)).mono fun b l2 O2 zz u => ?_))
  obtain ⟨pl, pu, h2, h3, h4⟩ := zz
  refine Wi.bindV (Wi.holding (P_none (C := C) (d := d) (env := env) (Q := fun a l3 O3 => a = .none ∧ Q (.slc pl pu) l3 O3) ⟨rfl, h4⟩ _) |>.mono fun c l3 O3 zz z => ?_)
  obtain ⟨h5, h6⟩ := zz
  subst h5
  intro X β h H A tk r
  have hz : z = .none := by cases H.pend z _ (.head _); rfl
  subst hz
  exact newSlice_prim (Q := Q) (part_is (H.pend v a (.tail _ (.tail _ (.head _)))) h2) (part_is (H.pend u b (.tail _ (.head _))) h3) h6 X β h H A tk r

/-- what a slice takes -/
noncomputable def slicedBy : Option Int → Option Int → List AV → Option (List AV)
  | none, none, xs => some xs
  | none, some k, xs => if 0 ≤ k then some (xs.take k.toNat) else none
  | some k, none, xs => if 0 ≤ k then some (xs.drop k.toNat) else none
  | _, _, _ => none
theorem slicedBy_ok {pl pu : Option Int} {xs ys : List AV} (e : slicedBy pl pu xs = some ys) (vs : List Value) (hv : vs.length = xs.length) : ∃ f : List Nat, (slicePick vs.toArray pl pu none).toList = f.filterMap (vs[·]?) ∧ ys = f.filterMap (xs[·]?) ∧ ∀ i ∈ f, i < xs.length := by
  match pl, pu, e with
  | none, none, e =>
    cases e
    refine ⟨List.range xs.length, ?_, ?_, fun i hi => List.mem_range.mp hi⟩
    · rw [slicePick_all]; show vs = _
      have := take_fm vs vs.length
      rw [List.take_length, Nat.min_self] at this
      rw [← hv]; exact this
    · have := take_fm xs xs.length
      rw [List.take_length, Nat.min_self] at this
      exact this
  | none, some k, e =>
    have e : (if 0 ≤ k then some (xs.take k.toNat) else none) = some ys := e
    by_cases hk : 0 ≤ k
    · rw [if_pos hk] at e
      cases e
      obtain ⟨n, rfl⟩ := Int.eq_ofNat_of_zero_le hk
      refine ⟨List.range (min n xs.length), ?_, take_fm _ _, fun i hi => Nat.lt_of_lt_of_le (List.mem_range.mp hi) (Nat.min_le_right _ _)⟩
      rw [slicePick_upto']; show vs.take n = _
      rw [← hv]; exact take_fm _ _
    · rw [if_neg hk] at e; cases e
  | some k, none, e =>
    have e : (if 0 ≤ k then some (xs.drop k.toNat) else none) = some ys := e
    by_cases hk : 0 ≤ k
    · rw [if_pos hk] at e
      cases e
      obtain ⟨n, rfl⟩ := Int.eq_ofNat_of_zero_le hk
      refine ⟨(List.range (xs.length - n)).map (· + n), ?_, drop_fm _ _, fun i hi => ?_⟩
      · rw [slicePick_from']; show vs.drop n = _
        rw [← hv]; exact drop_fm _ _
      · obtain ⟨j, hj, rfl⟩ := List.mem_map.mp hi
        have := List.mem_range.mp hj
        show j + n < _
        omega
    · rw [if_neg hk] at e; cases e
  | some _, some _, e => cases e

theorem E_SubSlice {value : Expr} {lo up : Option Expr} {pos sp : Pos} (hv : WE C d env value l Os (fun a l1 O1 => WE C d env (.Slice lo up none sp) l1 O1 (fun i l2 O2 => ∃ xs ys pl pu, (∀ zs, a ≠ .tup zs) ∧ SeqOf O2 a = some xs ∧ i = .slc pl pu ∧ slicedBy pl pu xs = some ys ∧ xs.length ≤ 10000 ∧ Q (.list ys) l2 O2))) :
    WE C d env (.Subscript value (.Slice lo up none sp) pos) l Os Q := fun p => by
  show Wi C d env p RV (eval value env >>= fun o => holding [o] (eval (.Slice lo up none sp) env) >>= fun i => standAt pos >>= fun _ => subscriptTail value (.Slice lo up none sp) o i) l Os Q
  refine Wi.bindV ((hv p).mono fun a l1 O1 h1 o => ?_)
  refine Wi.bindV (Wi.holding ((h1 ((o, a) :: p)).mono fun i l2 O2 zz u => Wi.standAt ?_))
  obtain ⟨xs, ys, pl, pu, g0, g1, g2, g3, g4, g5⟩ := zz
  subst g2
  exact slice_prim (.tail _ (.head _)) (.head _) g0 g1 (slicedBy_ok g3) g4 g5

/-- a new tuple -/
theorem E_Tuple {elts : List Expr} {k : Nat} {pos : Pos} (ha : WA C d env elts pos l Os (fun as l1 O1 => as.length ≤ 100 ∧ Q (.tup as) l1 O1)) : WE C d env (.Tuple elts k pos) l Os Q := fun p => by
  show Wi C d env p RV (standAt pos >>= fun _ => spliced (backTo pos (starEach elts env)) >>= fun vs => newTuple vs) l Os Q
  refine Wi.standAt fun X β h H => ?_
  refine Wp.bind ((ha p X β h H).mono fun vs h' zz => ?_)
  obtain ⟨β', as, l1, O1, g1, g2, g3, g4, g5, g6⟩ := zz
  intro A tk r
  refine wpAny_newTuple ?_ (by rw [g4.1]; exact Nat.le_trans g5 (by decide +kernel))
  refine ⟨_, _, rfl, β', .tup as, l1, O1, g1.keeps (push_get _), fun b o e hb => push_get _ _ _ (g2 b o e hb), g3, ?_, g6⟩
  exact .tup g1.freshSize ⟨_, Heap.get?_push_size _ rfl, rfl, 0, rfl⟩ g4.1 fun i v x ev ex => (g4.2 i v x ev ex).stable (fun b o _ e => push_get _ _ _ e) (fun b o hb _ => hb) fun _ _ e => e

/-- a new list, the frame's own -/
theorem E_List {elts : List Expr} {pos : Pos} (ha : WA C d env elts pos l Os (fun as l1 O1 => as.length ≤ 100 ∧ Q (.own O1.length) l1 (O1 ++ [.lst as]))) : WE C d env (.List elts pos) l Os Q := fun p => by
  show Wi C d env p RV (standAt pos >>= fun _ => spliced (backTo pos (starEach elts env)) >>= fun vs => newList vs) l Os Q
  refine Wi.standAt fun X β h H => ?_
  refine Wp.bind ((ha p X β h H).mono fun vs h' zz => ?_)
  obtain ⟨β', as, l1, O1, g1, g2, g3, g4, g5, g6⟩ := zz
  intro A tk r
  refine wpAny_newList ?_ (by rw [g4.1]; exact Nat.le_trans g5 (by decide +kernel))
  have hb : C.s.heap.get? h'.objs.size = none := by
    cases e : C.s.heap.get? h'.objs.size with
    | none => rfl
    | some o => have := g1.base _ _ e; rw [get_size] at this; cases this
  obtain ⟨k1, k2⟩ := g1.addOwn (h' := h'.push { cls := .type "list", data := .seq vs.toArray }) (a := h'.objs.size) (o := .lst as) (push_get _) (get_size _) hb
    fun F' β' st => ⟨vs, ⟨0, Heap.get?_push_size _ rfl⟩, g4.1, fun i v x ev ex => st (g4.2 i v x ev ex)⟩
  rw [List.append_assoc] at k1 k2
  refine ⟨_, _, rfl, β' ++ [h'.objs.size], .own O1.length, l1, _, k1, fun b o e hb => push_get _ _ _ (g2 b o e hb), fun b hb' => ?_, k2, g6⟩
  rcases List.mem_append.mp hb' with hb' | hb'
  · exact g3 b hb'
  · rw [List.mem_singleton.mp hb']
    cases e : h.get? h'.objs.size with
    | none => rfl
    | some o =>
      obtain ⟨o', e'⟩ := H.still g1 g2 _ _ e
      rw [get_size] at e'; cases e'
end
-- M5
section
variable {C : Cx} {d : Nat} {env : Env} {p : List (Value × AV)} {l : List (Str × AV)} {Os : List AO} {X : Addr → Prop} {β : List Addr} {h h' : Heap}

theorem Post.same {α A : Type} {R : RelT α A} {Q : A → List (Str × AV) → List AO → Prop} {l' : List (Str × AV)} {Os' : List AO} {v : α} {a : A} (H : Hold C X env l' β Os' p h') (hp : Pres env β h h') (hr : R C (Fb X env β) β h' v a) (hq : Q a l' Os') :
    Post C X env β p h R Q v h' := ⟨[], a, l', Os', (by rw [List.append_nil]; exact H), hp, (fun _ hb => (nomatch hb)), (by rw [List.append_nil]; exact hr), hq⟩

/-- a store into a name of the frame -/
theorem store_prim {x : Str} {v : Value} {av : AV} {Q : Unit → List (Str × AV) → List AO → Prop} (hx : env.kindOf x = some .local ∨ (env.kindOf x = some .cell ∧ (env.cells.lookup x).isSome = true)) (hv : (v, av) ∈ p) (hq : Q () ((x, av) :: l) Os) :
    Wi C d env p RU (storeName env x v) l Os Q := by
  intro X β h H A tk r
  rcases hx with hx | ⟨hx, hc⟩
  · obtain ⟨m, hm⟩ := H.ns
    refine wpAny_storeName_local hx hm (fun h' hm' hs => ⟨h', tk + 1, rfl, Post.same (H.setLocal hx hm hm' hs (H.pend v av hv)) (fun b o e hb => ?_) trivial hq⟩) (by rw [H.ok.kind]; rfl)
    exact (hs.2 b fun q => hb (q ▸ List.mem_cons_self ..)).trans e
  · obtain ⟨c, hc⟩ := Option.isSome_iff_exists.mp hc
    obtain ⟨_, u, hu⟩ := H.cl x c hc
    refine wpAny_storeName_cell H.ok.kind hx hc hu fun h' hv' hs => ⟨h', tk, rfl, Post.same (H.setCell hx hc hv' hs (H.pend v av hv)) (fun b o e hb => ?_) trivial hq⟩
    exact (hs.2 b fun q => hb (q ▸ List.mem_cons_of_mem _ (List.mem_append_left _ (H.cown x c hc hx)))).trans e

noncomputable def WG (C : Cx) (d : Nat) (env : Env) (t : Expr) (a : AV) (l : List (Str × AV)) (Os : List AO) (Q : List (Str × AV) → List AO → Prop) : Prop :=
  ∀ p v, (v, a) ∈ p → Wi C d env p RU (assign t env v) l Os (fun _ l' O' => Q l' O')

theorem G_Name {x : Str} {pos : Pos} {a : AV} {Q : List (Str × AV) → List AO → Prop} (hx : env.kindOf x = some .local ∨ (env.kindOf x = some .cell ∧ (env.cells.lookup x).isSome = true)) (hq : Q ((x, a) :: l) Os) : WG C d env (.Name x pos) a l Os Q :=
  fun p v hv X β h H A tk r => wpAny_assign_Name (store_prim (Q := fun _ l' O' => Q l' O') hx hv hq X β h H A tk r)

noncomputable def ListOf (Os : List AO) (j : Nat) : Option (List AV) := match Os[j]? with
  | some (.lst xs) => some xs
  | some (.fix xs) => some xs
  | _ => none
theorem Hold.listOf (H : Hold C X env l β Os p h) {j : Nat} {xs : List AV} (e : ListOf Os j = some xs) : ∃ b vs o, β[j]? = some b ∧ Os[j]? = some o ∧ h.IsList b vs.toArray ∧ IsL C (Fb X env β) β h vs xs := by
  unfold ListOf at e
  cases ho : Os[j]? with
  | none => rw [ho] at e; cases e
  | some o =>
    rw [ho] at e
    obtain ⟨b, hb, hi⟩ := H.own ho
    cases o with
    | lst ys => cases e; obtain ⟨vs, hp, hl⟩ := hi; exact ⟨b, vs, _, hb, rfl, hp.isList, hl⟩
    | fix ys => cases e; obtain ⟨vs, hp, hl⟩ := hi; exact ⟨b, vs, _, hb, rfl, hp, hl⟩
    | dct es => cases e

theorem setItem_prim {o i v : Value} {a : AV} {j : Nat} {xs : List AV} {k : Int} {Q : Unit → List (Str × AV) → List AO → Prop} (ho : (o, .own j) ∈ p) (hi : (i, .int k) ∈ p) (hv : (v, a) ∈ p) (hl : ListOf Os j = some xs) (h0 : 0 ≤ k) (h1 : k < xs.length) (h2 : k < 2 ^ 62)
    (hq : Q () l (Os.set j (.fix (xs.set k.toNat a)))) : Wi C d env p RU (setItem o i v) l Os Q := by
  intro X β h H A tk r
  obtain ⟨t, rfl⟩ := is_int (H.pend _ _ hi)
  obtain ⟨b, vs, ob, hb, hob, hL, hIs⟩ := H.listOf hl
  have : o = .ref b := by
    cases H.pend _ _ ho with
    | own _ b' hb' => rw [hb] at hb'; cases hb'; rfl
  subst this
  have hm : b ∈ mine env β := List.mem_cons_of_mem _ (List.mem_append_right _ (List.mem_of_getElem? hb))
  refine wpAny_setItem_list hL h0 (by lia  ) (by rw [List.size_toArray, hIs.1]; exact h1) fun h' hL' hs => ⟨h', tk, rfl, Post.same (H.setOwn (o' := .fix (xs.set k.toNat a)) hb hob hs ⟨vs.set k.toNat v, ?_, ?_⟩) (fun b' o e hb' => (hs.2 b' fun q => hb' (q ▸ hm)).trans e) trivial hq⟩
  · simpa using hL'
  · have hk : ∀ b' o, b' ≠ b → h.get? b' = some o → h'.get? b' = some o := fun b' o hb' e => (hs.2 b' hb').trans e
    refine ⟨by simp [hIs.1], fun n u x eu ex => ?_⟩
    by_cases q : n = k.toNat
    · subst q
      have hlt : k.toNat < vs.length := by rw [hIs.1]; lia
      rw [List.getElem?_set_self hlt] at eu
      rw [List.getElem?_set_self (hIs.1 ▸ hlt)] at ex
      cases eu; cases ex
      exact H.rest hm hk (H.pend v a hv)
    · rw [List.getElem?_set_ne (Ne.symm q)] at eu ex
      exact H.rest hm hk (hIs.2 n u x eu ex)

theorem G_Sub {o i : Expr} {pos : Pos} {a : AV} {Q : List (Str × AV) → List AO → Prop}
    (ho : WE C d env o l Os (fun c l1 O1 => WE C d env i l1 O1 (fun b l2 O2 => ∃ j xs k, c = .own j ∧ b = .int k ∧ ListOf O2 j = some xs ∧ 0 ≤ k ∧ k < xs.length ∧ k < 2 ^ 62 ∧ Q l2 (O2.set j (.fix (xs.set k.toNat a)))))) :
    WG C d env (.Subscript o i pos) a l Os Q := fun p v hv => by
  have e : ∃ g : Value → Value → List Value, assign (.Subscript o i pos) env v = (holding [v] (eval o env) >>= fun ov => holding [v, ov] (eval i env) >>= fun iv => standAt pos >>= fun _ => holding [v, ov, iv] (setItem ov iv v) >>= fun _ => release (g ov iv) []) := ⟨_, rfl⟩
  obtain ⟨g, e⟩ := e
  rw [e]
  refine Wi.bindV (Wi.holding ((ho p).mono fun c l1 O1 h1 ov => ?_))
  refine Wi.bindV (Wi.holding ((h1 ((ov, c) :: p)).mono fun b l2 O2 zz iv => Wi.standAt ?_))
  obtain ⟨j, xs, k, e1, e2, e3, e4, e5, e6, e7⟩ := zz
  subst e1; subst e2
  refine Wi.bindO (R := RU) (Wi.holding (setItem_prim (.tail _ (.head _)) (.head _) (.tail _ (.tail _ hv)) e3 e4 e5 e6 ?_))
  intro _ _
  intro X β h H A tk r
  exact wpAny_release ⟨h, tk, rfl, Post.same (a := ()) H (Pres.refl env β h) trivial e7⟩

/-- targets of a tuple, in order -/
noncomputable def WGs (C : Cx) (d : Nat) (env : Env) : List Expr → List AV → List (Str × AV) → List AO → (List (Str × AV) → List AO → Prop) → Prop
  | [], [], l, Os, Q => Q l Os
  | t :: ts, a :: as, l, Os, Q => WG C d env t a l Os (fun l1 O1 => WGs C d env ts as l1 O1 Q)
  | _, _, _, _, _ => False

theorem inOrder_prim {Q : List (Str × AV) → List AO → Prop} : ∀ (ts : List Expr) (as : List AV) (vs : List Value) (p : List (Value × AV)) (l : List (Str × AV)) (Os : List AO), vs.length = as.length →
    (∀ (i : Nat) v a, vs[i]? = some v → as[i]? = some a → (v, a) ∈ p) → WGs C d env ts as l Os Q → Wi C d env p RU (assignInOrder (ts.map fun t => assign t env) vs) l Os (fun _ l' O' => Q l' O')
  | [], [], [], p, l, Os, _, _, hq => fun X β h H A tk r => wpAny_pure ⟨h, tk, rfl, Post.same (a := ()) H (Pres.refl env β h) trivial hq⟩
  | t :: ts, a :: as, v :: vs, p, l, Os, hl, hp, hq => by
    show Wi C d env p RU (holding vs (assign t env v) >>= fun _ => assignInOrder (ts.map fun t => assign t env) vs) l Os _
    refine Wi.bindO (R := RU) (Wi.holding ((hq p v (hp 0 v a rfl rfl)).mono fun _ l1 O1 h1 _ _ => ?_))
    exact inOrder_prim ts as vs p l1 O1 (by simpa using hl) (fun i v a e e' => hp (i + 1) v a (by simpa using e) (by simpa using e')) h1
  | [], _ :: _, _, _, _, _, _, _, hq => hq.elim
  | _ :: _, [], _, _, _, _, _, _, hq => hq.elim
  | [], [], _ :: _, _, _, _, hl, _, _ => by simp at hl
  | _ :: _, _ :: _, [], _, _, _, hl, _, _ => by simp at hl

theorem Hold.pushL (H : Hold C X env l β Os p h) {vs : List Value} {as : List AV} (hl : IsL C (Fb X env β) β h vs as) : Hold C X env l β Os (vs.zip as ++ p) h := by
  have hp : ∀ v av, (v, av) ∈ vs.zip as ++ p → Is C (Fb X env β) β h v av := fun v av hm => by
    rcases List.mem_append.mp hm with hm | hm
    · obtain ⟨i, hi⟩ := List.mem_iff_getElem?.mp hm
      have h1 : vs[i]? = some v := by
        have := List.getElem?_zip_eq_some.mp hi
        exact this.1
      have h2 : as[i]? = some av := (List.getElem?_zip_eq_some.mp hi).2
      exact hl.2 i v av h1 h2
    · exact H.pend v av hm
  exact { H with pend := hp }

theorem G_Tuple {elts : List Expr} {k : Nat} {pos : Pos} {a : AV} {as : List AV} {Q : List (Str × AV) → List AO → Prop} (ha : a = .tup as) (hn : elts.length = as.length) (hq : WGs C d env elts as l Os Q)
    (he : (assignEach elts env).map (·.2) = elts.map fun t => assign t env := by rfl) (hf : (assignEach elts env).findIdx? (·.1) = none := by rfl) : WG C d env (.Tuple elts k pos) a l Os Q := fun p v hv X β h H A tk r => by
  subst ha
  have hi := H.pend v _ hv
  cases hi with
  | @tup b vs _ hfb ht hl hx =>
    have hlen : (assignEach elts env).length = vs.toArray.size := by
      have := congrArg List.length he
      simp only [List.length_map] at this
      rw [this, hn, List.size_toArray, hl]
    refine wpAny_assign_Tuple r.hand ht hlen hf fun h1 hx1 => ?_
    rw [he]
    have hk : ∀ b o, h.get? b = some o → h1.get? b = some o := fun b o e => hx1 b o (fun q => by rw [q, get_size] at e; cases e) e
    have hIs : IsL C (Fb X env β) β h1 vs as := ⟨hl, fun i v x e e' => (hx i v x e e').stable (fun b o _ e => hk b o e) (fun b o hb _ => hb) fun _ _ e => e⟩
    have H1 := (H.keeps hk).pushL hIs
    have go := inOrder_prim (Q := Q) elts as vs (vs.zip as ++ p) l Os hl (fun i v a e e' => List.mem_append_left _ (List.mem_of_getElem? (i := i) (by rw [List.getElem?_zip_eq_some]; exact ⟨e, e'⟩))) hq X β h1 H1 A tk r
    refine wpAny_mono go (fun u s' ⟨h2, tk2, e, post⟩ => ⟨h2, tk2, e, ?_⟩) fun _ _ e => e
    have post' : Post C X env (β ++ []) (vs.zip as ++ p) h1 RU (fun _ l' O' => Q l' O') u h2 := by rw [List.append_nil]; exact post
    exact post'.trans (β' := []) (fun b o e _ => hk b o e) (by simp) (fun _ hx => List.mem_append_right _ hx) fun b o e => ⟨o, hk b o e⟩

/-- statements -/
theorem S_Return {e : Expr} {pos : Pos} {Q : AF → List (Str × AV) → List AO → Prop} (he : WE C d env e l Os (fun a l1 O1 => Q (.ret a) l1 O1)) : WS C d env (.Return (some e) pos) l Os Q := fun p X β h H A tk r =>
  wpAny_Return_some (wpAny_mono (he p X β h H A tk r) (fun v s' zz => by obtain ⟨h', tk', e, β', a, l', O', g1, g2, g3, g4, g5⟩ := zz; exact ⟨h', tk', e, β', .ret a, l', O', g1, g2, g3, .ret g4, g5⟩) fun _ _ e => e)

theorem B_nil {Q : AF → List (Str × AV) → List AO → Prop} (hq : Q .next l Os) : WB C d env [] l Os Q := fun p X β h H A tk r => wpAny_execs_nil ⟨h, tk, rfl, Post.same H (Pres.refl env β h) .next hq⟩
theorem B_cons {st : Stmt} {rest : List Stmt} {Q : AF → List (Str × AV) → List AO → Prop} (hs : WS C d env st l Os (fun f l1 O1 => match f with | .next => WB C d env rest l1 O1 Q | f => Q f l1 O1)) : WB C d env (st :: rest) l Os Q := fun p => by
  show Wi C d env p RF (exec st env >>= fun f => match f with | .next => execs rest env | f => pure f) l Os Q
  intro X β h H
  refine Wp.bind ((hs p X β h H).mono fun f h' zz => ?_)
  obtain ⟨β', af, l1, O1, g1, g2, g3, g4, g5⟩ := zz
  cases g4 with
  | next => exact (g5 p X (β ++ β') h' g1).mono fun u h'' y => y.trans g2 g3 (fun _ hx => hx) (H.still g1 g2)
  | brk => exact Wp.pure ⟨β', .brk, l1, O1, g1, g2, g3, .brk, g5⟩
  | cont => exact Wp.pure ⟨β', .cont, l1, O1, g1, g2, g3, .cont, g5⟩
  | ret hi => exact Wp.pure ⟨β', .ret _, l1, O1, g1, g2, g3, .ret hi, g5⟩

theorem S_If {t : Expr} {b o : List Stmt} {pos : Pos} {Q : AF → List (Str × AV) → List AO → Prop} (ht : WT C d env t l Os (fun c l1 O1 => (c = true → WB C d env b l1 O1 Q) ∧ (c = false → WB C d env o l1 O1 Q))) : WS C d env (.If t b o pos) l Os Q := fun p => by
  show Wi C d env p RF (standAt pos >>= fun _ => isTrue t env (eval t env) >>= fun c => if c = true then execs b env else execs o env) l Os Q
  refine Wi.standAt (Wi.bindO ((ht p).mono fun c l1 O1 h1 v hv => ?_))
  obtain ⟨_, _, _, hv⟩ := hv
  rw [show v = c from hv]
  cases c with
  | true => exact h1.1 rfl p
  | false => exact h1.2 rfl p

/-- one target; the stores are not exchanged -/
theorem S_Assign {t value : Expr} {pos : Pos} {Q : AF → List (Str × AV) → List AO → Prop} (hv : WE C d env value l Os (fun a l1 O1 => WG C d env t a l1 O1 (fun l2 O2 => Q .next l2 O2)))
    (hs : swapsWithSole [t] value pos.line env = pure false) (hw : swappedStores [t] value env = pure none) (he : (assignEach [t] env).map (·.2) = [assign t env] := by rfl) : WS C d env (.Assign [t] value pos) l Os Q := fun p => by
  have e : exec (.Assign [t] value pos) env = (standAt pos >>= fun _ => eval value env >>= fun v => assign t env v >>= fun _ => pure .next) := by
    rw [exec_Assign_arm]
    congr 1; funext _
    rw [hs]
    show (eval value env >>= fun v => swappedStores [t] value env >>= fun w => assignStores env v w ((assignEach [t] env).map (·.2))) = _
    congr 1; funext v
    rw [hw, he]
    rfl
  rw [e]
  refine Wi.standAt (Wi.bindV ((hv p).mono fun a l1 O1 h1 v => ?_))
  refine Wi.bindO (R := RU) ((h1 ((v, a) :: p) v (.head _)).mono fun _ l2 O2 h2 _ _ => ?_)
  exact Wi.ret (a := .next) (fun _ _ _ _ => .next) h2

theorem rev_zip {α γ : Type} : ∀ (xs : List α) (ys : List γ), xs.length = ys.length → (xs.reverse.zip ys.reverse).reverse = xs.zip ys
  | [], [], _ => rfl
  | x :: xs, y :: ys, h => by
    have h' : xs.length = ys.length := by simpa using h
    rw [List.reverse_cons, List.reverse_cons, List.zip_append (by simp [h']), List.reverse_append, rev_zip xs ys h']
    rfl
  | [], _ :: _, h => by simp at h
  | _ :: _, [], h => by simp at h
/-- names whose stores are exchanged -/
theorem S_AssignSwap {t value : Expr} {names : List Str} {pos : Pos} {Q : AF → List (Str × AV) → List AO → Prop}
    (hv : WE C d env value l Os (fun a l1 O1 => ∃ as, a = .tup as ∧ as.length = names.length ∧ Q .next ((names.zip as) ++ l1) O1))
    (hs : swapsWithSole [t] value pos.line env = pure false) (hw : swappedStores [t] value env = pure (some names)) (hk : ∀ x ∈ names, env.kindOf x = some .local) : WS C d env (.Assign [t] value pos) l Os Q := fun p => by
  have e : exec (.Assign [t] value pos) env = (standAt pos >>= fun _ => eval value env >>= fun v => rule "assign.swapped-stores" >>= fun _ => unpackItems v names.length none >>= fun items => assignInOrder (names.reverse.map fun n => bindName env n) items.reverse >>= fun _ => pure .next) := by
    rw [exec_Assign_arm]
    congr 1; funext _
    rw [hs]
    show (eval value env >>= fun v => swappedStores [t] value env >>= fun w => assignStores env v w ((assignEach [t] env).map (·.2))) = _
    congr 1; funext v
    rw [hw]
    rfl
  rw [e]
  refine Wi.standAt (Wi.bindV ((hv p).mono fun a l1 O1 zz v => ?_))
  obtain ⟨as, h1, h2, h3⟩ := zz
  subst h1
  intro X β h H A tk r
  have hi := H.pend v _ (.head _)
  cases hi with
  | @tup b vs _ hfb ht hl hx =>
  refine wpAny_bind (wpAny_rule ?_)
  have hlen : names.length = vs.toArray.size := by rw [List.size_toArray, hl, h2]
  rw [hlen]
  refine wpAny_bind (wpAny_unpackItems_tuple r.hand ht fun hh hx1 => ?_)
  have hk1 : ∀ b o, h.get? b = some o → hh.get? b = some o := fun b o e => hx1 b o (fun q => by rw [q, get_size] at e; cases e) e
  have hIs : IsL C (Fb X env β) β hh vs as := ⟨hl, fun i v x e e' => (hx i v x e e').stable (fun b o _ e => hk1 b o e) (fun b o hb _ => hb) fun _ _ e => e⟩
  have H1 := (H.keeps hk1).pushL hIs
  -- the names, one by one, the last first
  have go : ∀ (ns : List Str) (vs : List Value) (as : List AV) (q : List (Value × AV)) (l2 : List (Str × AV)), vs.length = as.length → ns.length = as.length → (∀ x ∈ ns, env.kindOf x = some .local) → (∀ (i : Nat) v a, vs[i]? = some v → as[i]? = some a → (v, a) ∈ q) →
      Wi C d env q RU (assignInOrder (ns.map fun n => bindName env n) vs) l2 O1 (fun _ l' O' => l' = (ns.zip as).reverse ++ l2 ∧ O' = O1) := by
    intro ns
    induction ns with
    | nil =>
      intro vs as q l2 e1 e2 _ _
      cases as with
      | cons a as => simp at e2
      | nil =>
        cases vs with
        | cons v vs => simp at e1
        | nil => exact fun X β h H A tk r => wpAny_pure ⟨h, tk, rfl, Post.same (a := ()) H (Pres.refl env β h) trivial ⟨rfl, rfl⟩⟩
    | cons n ns ih =>
      intro vs as q l2 e1 e2 hns hq
      cases as with
      | nil => simp at e2
      | cons a as =>
        cases vs with
        | nil => simp at e1
        | cons v vs =>
          show Wi C d env q RU (holding vs (bindName env n v) >>= fun _ => assignInOrder (ns.map fun n => bindName env n) vs) l2 O1 _
          refine Wi.bindO (R := RU) (Wi.holding (fun X β h H A tk r => wpAny_bindName (store_prim (Q := fun _ l' O' => l' = (n, a) :: l2 ∧ O' = O1) (.inl (hns n (List.mem_cons_self ..))) (hq 0 v a rfl rfl) ⟨rfl, rfl⟩ X β h H A tk r)) |>.mono fun _ l3 O3 zz _ _ => ?_)
          obtain ⟨e3, e4⟩ := zz
          subst e3; subst e4
          refine (ih vs as q _ (by simpa using e1) (by simpa using e2) (fun x hx => hns x (List.mem_cons_of_mem _ hx)) fun i v a e e' => hq (i + 1) v a (by simpa using e) (by simpa using e')).mono fun _ l4 O4 ⟨e5, e6⟩ => ⟨?_, e6⟩
          rw [e5]; simp
  have := go names.reverse vs.reverse as.reverse (vs.zip as ++ ((.ref b, .tup as) :: p)) l1 (by simp [hl]) (by simp [h2]) (fun x hx => hk x (List.mem_reverse.mp hx)) (fun i v a e e' => by
    refine List.mem_append_left _ ?_
    have hi1 : i < vs.length := by have := (List.getElem?_eq_some_iff.mp e).1; simpa using this
    rw [List.getElem?_reverse hi1] at e
    rw [List.getElem?_reverse (by rw [← hl]; exact hi1), ← hl] at e'
    exact List.mem_of_getElem? (i := vs.length - 1 - i) (by rw [List.getElem?_zip_eq_some]; exact ⟨e, e'⟩)) X β hh H1 A tk r
  refine wpAny_bind (wpAny_mono this (fun u s' zz => ?_) fun _ _ e => e)
  obtain ⟨h4, tk4, e4, post⟩ := zz
  subst e4
  obtain ⟨β', _, l', O', g1, g2, g3, _, g5, g6⟩ := post
  refine wpAny_pure ⟨h4, tk4, rfl, β', .next, l', O', g1.weak (fun _ hx => List.mem_append_right _ hx), fun b o e hb => g2 b o (hk1 b o e) hb, fun b hb => ?_, .next, ?_⟩
  · cases e : h.get? b with
    | none => rfl
    | some o => have := hk1 b o e; rw [g3 b hb] at this; cases this
  · rw [g5, g6, rev_zip _ _ h2.symm]
    exact h3
end
-- M6
section
variable {C : Cx} {d : Nat} {env : Env} {p : List (Value × AV)} {l : List (Str × AV)} {Os : List AO} {X : Addr → Prop} {β : List Addr} {h h' : Heap}

theorem bind_prim {x : Str} {v : Value} {av : AV} {Q : Unit → List (Str × AV) → List AO → Prop} (hx : env.kindOf x = some .local ∨ (env.kindOf x = some .cell ∧ (env.cells.lookup x).isSome = true)) (hv : (v, av) ∈ p) (hq : Q () ((x, av) :: l) Os) :
    Wi C d env p RU (bindName env x v) l Os Q := fun X β h H A tk r => wpAny_bindName (store_prim (Q := Q) hx hv hq X β h H A tk r)

/-- += and its kin -/
theorem aug_prim {op : Operator} {u v : Value} {a b : AV} {Q : AV → List (Str × AV) → List AO → Prop} (hu : (u, a) ∈ p) (hv : (v, b) ∈ p) (hop : op = .Add ∨ op = .Sub ∨ op = .RShift ∨ op = .Mod ∨ op = .BitOr) (hK : BinR op a b fun c => Q c l Os) : Wi C d env p RV (inplaceOp op u v) l Os Q := by
  have fin : ∀ (x y : Int) (k : Int), a = .int x → b = .int y → Q (.int k) l Os →
      (∀ (A : Around) (s : Shared) (t t' : Tok) (Q' : Value → Shared → Prop), Q' (.int k s.toks) { s with toks := s.toks + 1 } → wpAny (model P0 C.w) A (inplaceOp op (.int x t) (.int y t')) Q' (fun _ _ => False) s) →
      Wi C d env p RV (inplaceOp op u v) l Os Q := by
    intro x y k ha hb hq hw
    subst ha; subst hb
    refine Wi.prim (x := .int k) (fun X β h H A tk r Q' hQ' => ?_) hq
    obtain ⟨t, rfl⟩ := is_int (H.pend _ _ hu)
    obtain ⟨t', rfl⟩ := is_int (H.pend _ _ hv)
    exact hw A _ t t' Q' (hQ' _ _ _ (fun _ _ e => e) (.int _ _))
  have hK : BinI (fun c => Q c l Os) op a b := hK
  cases hK with
  | add h => exact fin _ _ _ rfl rfl h fun A s t t' Q' h => PyProof.Rows.iadd_int h
  | sub h => exact fin _ _ _ rfl rfl h fun A s t t' Q' h => PyProof.Rows.isub_int h
  | mod h0 h => exact fin _ _ _ rfl rfl h fun A s t t' Q' h => imod_int h0 h
  | shr h0 h => exact fin _ _ _ rfl rfl h fun A s t t' Q' h => irshift_int h0 h
  | or h => exact fin _ _ _ rfl rfl h fun A s t t' Q' h => ior_int h
  | _ => simp at hop

theorem S_Aug {x : Str} {npos pos : Pos} {op : Operator} {value : Expr} {a : AV} {Q : AF → List (Str × AV) → List AO → Prop} (hx : env.kindOf x = some .local) (ha : l.lookup x = some a) (hop : op = .Add ∨ op = .Sub ∨ op = .RShift ∨ op = .Mod ∨ op = .BitOr)
    (hv : WE C d env value l Os (fun b l1 O1 => BinR op a b fun c => Q .next ((x, c) :: l1) O1)) : WS C d env (.AugAssign (.Name x npos) op value pos) l Os Q := fun p => by
  show Wi C d env p RF (standAt npos >>= fun _ => loadName env x >>= fun old => holding [old] (eval value env) >>= fun v => standAt pos >>= fun _ => PySem.operate [old, v] (inplaceOp op old v) >>= fun new => standAt npos >>= fun _ => bindName env x new >>= fun _ => pure .next) l Os Q
  refine Wi.standAt ?_
  refine Wi.bindV (Wi.prim (x := a) (Q := fun a' l' O' => a' = a ∧ l' = l ∧ O' = Os) (fun X β h H A tk r Q' hQ' => ?_) ⟨rfl, rfl, rfl⟩ |>.mono fun a' l0 O0 ⟨e1, e2, e3⟩ old => ?_)
  · obtain ⟨v, hv, hi⟩ := H.vars x a ha
    rcases hv with ⟨k, m, hm, hx'⟩ | ⟨k, _⟩
    · exact wpAny_loadName_local H.ok.kind hx hm hx' (hQ' v h tk (fun _ _ e => e) hi)
    · rw [hx] at k; simp at k
  subst e1; subst e2; subst e3
  refine Wi.bindV (Wi.holding ((hv ((old, a') :: p)).mono fun b l1 O1 h1 v => Wi.standAt ?_))
  refine Wi.bindV (Wi.operate (aug_prim (Q := fun c l2 O2 => Q .next ((x, c) :: l2) O2) (.tail _ (.head _)) (.head _) hop h1) |>.mono fun c l2 O2 h2 new => Wi.standAt ?_)
  refine Wi.bindO (R := RU) ((bind_prim (Q := fun _ l3 O3 => Q .next l3 O3) (.inl hx) (.head _) h2).mono fun _ l3 O3 h3 _ _ => ?_)
  exact Wi.ret (a := .next) (fun _ _ _ _ => .next) h3

/-- a callee that a name of the built-ins tells -/
theorem callee_prim {x : Str} {pos : Pos} {f : Value} {A : Around} {tk : Nat} {Q' : Value → Shared → Prop} (H : Hold C X env l β Os p h) (hb : x ∈ bnames) (hf : bootBuiltins x = some f) (hk : env.kindOf x = some .globalImplicit)
    (h1 : (x == ("__debug__" : Str)) = false) (hn : x ≠ ("__name__" : Str)) (hQ : Q' f (C.at h tk)) : wpAny (model P0 C.w) A (eval (.Name x pos) env) Q' (fun _ _ => False) (C.at h tk) := by
  refine Name_function_global H.ok.kind hk (loadGlobal_builtin (mg := C.mg) (mb := C.mb) ?_ (C.free x hb) ?_ ((C.builtins x hn).trans hf) hQ) h1
  · rw [H.ok.globals]; exact C.g.keeps H.base
  · rw [H.ok.builtins]; exact C.b.keeps H.base

theorem E_callB {x : Str} {np pos : Pos} {f : Value} {e : Expr} {rest : List Expr} {Q : AV → List (Str × AV) → List AO → Prop} (hb : x ∈ bnames) (hf : bootBuiltins x = some f) (hk : env.kindOf x = some .globalImplicit)
    (h1 : (x == ("__debug__" : Str)) = false) (hn : x ≠ ("__name__" : Str)) (hty : (∃ T, f = .type T) ∨ ∃ id, f = .builtin id)
    (ha : WA C d env (e :: rest) pos l Os (fun as l1 O1 => ∀ p vs, vs.length = as.length → (∀ (i : Nat) v a, vs[i]? = some v → as[i]? = some a → (v, a) ∈ p) → Wi C d env p RV (call f vs) l1 O1 Q))
    (he : starEach (e :: rest) env = (false, eval e env) :: starEach rest env := by rfl) (hp : (backTo pos (starEach rest env)).any (·.1) = false := by rfl)
    (hc : eval (.Call (.Name x np) (e :: rest) [] pos) env = (do callWith pos (← eval (.Name x np) env) [] (backTo pos (starEach (e :: rest) env)) (backToKw pos (keywordEach [] env))) := by rfl) :
    WE C d env (.Call (.Name x np) (e :: rest) [] pos) l Os Q := fun p X β h H A tk r => by
  refine Call_ (callee_prim H hb hf hk h1 hn ?_) hc
  have go : wpAny (model P0 C.w) A (spliced (backTo pos (starEach (e :: rest) env))) (fun vs s₁ => wpAny (model P0 C.w) A (call f vs) (fun v s' => Ends C (Post C X env β p h RV Q v) s') (fun _ _ => False) s₁) (fun _ _ => False) (C.at h tk) := by
    refine wpAny_mono (ha p X β h H A tk r) (fun vs s1 zz => ?_) fun _ _ e => e
    obtain ⟨h', tk', e1, β', as, l1, O1, g1, g2, g3, g4, g5⟩ := zz
    subst e1
    have H1 := g1.pushL g4
    have := g5 (vs.zip as ++ p) vs g4.1 (fun i v a ev ex => List.mem_append_left _ (List.mem_of_getElem? (i := i) (by rw [List.getElem?_zip_eq_some]; exact ⟨ev, ex⟩))) X (β ++ β') h' H1 A tk' r
    refine wpAny_mono this (fun v s2 ⟨h2, tk2, e2, post⟩ => ⟨h2, tk2, e2, ?_⟩) fun _ _ e => e
    exact post.trans g2 g3 (fun _ hx => List.mem_append_right _ hx) (H.still g1 g2)
  rcases hty with ⟨T, rfl⟩ | ⟨id, rfl⟩
  · exact PyProof.Rows.callWith_type1 go he hp
  · exact PyProof.Rows.callWith_builtin1 go he hp

theorem len1 {α γ : Type} {vs : List α} {a : γ} (h : vs.length = [a].length) : ∃ v, vs = [v] := List.length_eq_one_iff.mp h
theorem len2 {α γ : Type} {vs : List α} {a b : γ} (h : vs.length = [a, b].length) : ∃ v u, vs = [v, u] := by
  obtain ⟨v, vs, rfl⟩ := List.exists_cons_of_length_pos (l := vs) (by rw [h]; exact Nat.succ_pos _)
  obtain ⟨u, rfl⟩ := List.length_eq_one_iff.mp (Nat.succ.inj h)
  exact ⟨v, u, rfl⟩
theorem len3 {α γ : Type} {vs : List α} {a b c : γ} (h : vs.length = [a, b, c].length) : ∃ v u w, vs = [v, u, w] := by
  obtain ⟨v, vs, rfl⟩ := List.exists_cons_of_length_pos (l := vs) (by rw [h]; exact Nat.succ_pos _)
  obtain ⟨u, w, rfl⟩ := len2 (a := b) (b := c) (Nat.succ.inj h)
  exact ⟨v, u, w, rfl⟩
theorem len4 {α γ : Type} {vs : List α} {a0 a1 a2 a3 : γ} (h : vs.length = [a0, a1, a2, a3].length) : ∃ v0 v1 v2 v3, vs = [v0, v1, v2, v3] := by
  obtain ⟨v0, vs, rfl⟩ := List.exists_cons_of_length_pos (l := vs) (by rw [h]; exact Nat.succ_pos _)
  obtain ⟨v1, v2, v3, rfl⟩ := len3 (a := a1) (b := a2) (c := a3) (Nat.succ.inj h)
  exact ⟨v0, v1, v2, v3, rfl⟩
theorem len5 {α γ : Type} {vs : List α} {a0 a1 a2 a3 a4 : γ} (h : vs.length = [a0, a1, a2, a3, a4].length) : ∃ v0 v1 v2 v3 v4, vs = [v0, v1, v2, v3, v4] := by
  obtain ⟨v0, vs, rfl⟩ := List.exists_cons_of_length_pos (l := vs) (by rw [h]; exact Nat.succ_pos _)
  obtain ⟨v1, v2, v3, v4, rfl⟩ := len4 (a0 := a1) (a1 := a2) (a2 := a3) (a3 := a4) (Nat.succ.inj h)
  exact ⟨v0, v1, v2, v3, v4, rfl⟩
theorem len6 {α γ : Type} {vs : List α} {a0 a1 a2 a3 a4 a5 : γ} (h : vs.length = [a0, a1, a2, a3, a4, a5].length) : ∃ v0 v1 v2 v3 v4 v5, vs = [v0, v1, v2, v3, v4, v5] := by
  obtain ⟨v0, vs, rfl⟩ := List.exists_cons_of_length_pos (l := vs) (by rw [h]; exact Nat.succ_pos _)
  obtain ⟨v1, v2, v3, v4, v5, rfl⟩ := len5 (a0 := a1) (a1 := a2) (a2 := a3) (a3 := a4) (a4 := a5) (Nat.succ.inj h)
  exact ⟨v0, v1, v2, v3, v4, v5, rfl⟩
theorem len7 {α γ : Type} {vs : List α} {a0 a1 a2 a3 a4 a5 a6 : γ} (h : vs.length = [a0, a1, a2, a3, a4, a5, a6].length) : ∃ v0 v1 v2 v3 v4 v5 v6, vs = [v0, v1, v2, v3, v4, v5, v6] := by
  obtain ⟨v0, vs, rfl⟩ := List.exists_cons_of_length_pos (l := vs) (by rw [h]; exact Nat.succ_pos _)
  obtain ⟨v1, v2, v3, v4, v5, v6, rfl⟩ := len6 (a0 := a1) (a1 := a2) (a2 := a3) (a3 := a4) (a4 := a5) (a5 := a6) (Nat.succ.inj h)
  exact ⟨v0, v1, v2, v3, v4, v5, v6, rfl⟩
theorem E_len {x : Str} {np pos : Pos} {e : Expr} {Q : AV → List (Str × AV) → List AO → Prop} (hx : x = ("len" : Str)) (hk : env.kindOf x = some .globalImplicit)
    (ha : WE C d env e l Os (fun a l1 O1 => ∃ xs, SeqOf O1 a = some xs ∧ xs.length < 2 ^ 20 ∧ Q (.int xs.length) l1 O1)) (he : starEach [e] env = [(false, eval e env)] := by rfl)
    (hc : eval (.Call (.Name x np) [e] [] pos) env = (do callWith pos (← eval (.Name x np) env) [] (backTo pos (starEach [e] env)) (backToKw pos (keywordEach [] env))) := by rfl) : WE C d env (.Call (.Name x np) [e] [] pos) l Os Q := by
  subst hx
  refine E_callB (f := .builtin "len") (by decide +kernel) (by decide +kernel) hk (by decide +kernel) (by decide +kernel) (.inr ⟨_, rfl⟩) (A_cons (fun p => (ha p).mono fun a l1 O1 zz => A_nil fun p vs hl hp => ?_) he) he rfl hc
  obtain ⟨xs, g1, g2, g3⟩ := zz
  obtain ⟨v, rfl⟩ := len1 hl
  refine Wi.prim (x := .int xs.length) (fun X β h H A tk r Q' hQ' => ?_) g3
  obtain ⟨b, vs, rfl, hv, hkd⟩ := H.seq (H.pend v a (hp 0 v a rfl rfl)) g1
  have hs : vs.toArray.size = xs.length := by rw [List.size_toArray, hv.1]
  rcases hkd with hL | ⟨_, hT⟩
  · refine call_len_list hL (by rw [hs]; lia  ) ?_
    rw [hs]; exact hQ' _ _ _ (fun _ _ e => e) (.int _ _)
  · refine len_tuple hT (by rw [hs]; lia  ) ?_
    rw [hs]; exact hQ' _ _ _ (fun _ _ e => e) (.int _ _)

theorem mul_here {prog : Program} {w : World} {A : Around} {E : Value → Shared → Prop} {s : Shared} {b : Addr} {items : Array Value} {n : Nat} {x : Int} {u : Tok} {Q : Value → Shared → Prop}
    (hl : s.heap.get? b = some { cls := .type "list", dict := none, data := .seq items n, slots := #[] }) (hlo : 0 ≤ x) (hhi : x ≤ 10000) (hsz : items.size = 1)
    (hq : Q (.ref s.heap.objs.size) { s with heap := s.heap.push { cls := .type "list", data := .seq (List.foldl (fun x1 x2 => x1 ++ x2) #[] (List.replicate (if items.isEmpty = true then 0 else x.toNat) items)) } }) :
    wpAny (model prog w) A (binaryOp .Mult (.ref b) (.int x u)) Q E s :=
  have hz : items.size * x.toNat ≤ 10000 := by rw [hsz]; lia
  wpAny_binaryOp_repeat_ref (T := "list") (U := "int") (by decide) ⟨_, hl, rfl⟩ (fun s' => typeIs_int s' x u) noFill_list_mul F.fills_int_mul F.slot_int_rmul repeat_list F.slot_int_index.lookup
    (call_meets F.slot_int_rmul (typeIs_int s x u) F.entry_int_rmul (F.args_int_rmul_2 _ _) (int___rmul___int_list x u b items n)
      ⟨hl, rfl, ⟨_, hl, rfl⟩, call_meets F.slot_list_mul ⟨_, hl, rfl⟩ F.entry_list_mul (F.args_list_mul_2 _ _)
        (AutoListH.list___mul___list_int_3 b items n x u (by simp [Builtin.List.listFitsIndex]; lia  ) (by lia  ) (by rw [hsz, Nat.one_mul]; simp [Builtin.List.listTooLong, sizeLine]; lia  ))
        ⟨hl, hq⟩⟩)

/-- a list repeated: the frame's own -/
theorem repeat_prim {u v : Value} {a : AV} {k : Int} {Q : AV → List (Str × AV) → List AO → Prop} {j : Nat} (hu : (u, .own j) ∈ p) (hv : (v, .int k) ∈ p) (hl : Os[j]? = some (.lst [a])) (h0 : 0 ≤ k) (h1 : k ≤ 10000)
    (hQ : Q (.own Os.length) l (Os ++ [.lst (List.replicate k.toNat a)])) : Wi C d env p RV (binaryOp .Mult u v) l Os Q := fun X β h H A tk r => by
  obtain ⟨t, rfl⟩ := is_int (H.pend _ _ hv)
  obtain ⟨b, hb, vs, ⟨n, hob⟩, hIs⟩ := H.own hl
  have : u = .ref b := by
    cases H.pend _ _ hu with
    | own _ b' hb' => rw [hb] at hb'; cases hb'; rfl
  subst this
  obtain ⟨w, rfl⟩ := len1 hIs.1
  have hw := hIs.2 0 w a rfl rfl
  have hf : (List.foldl (fun x1 x2 => x1 ++ x2) #[] (List.replicate (if (#[w] : Array Value).isEmpty = true then 0 else k.toNat) #[w]) : Array Value) = (List.replicate k.toNat w).toArray := by
    have : ∀ (n : Nat) (acc : List Value), List.foldl (fun x1 x2 => x1 ++ x2) acc.toArray (List.replicate n #[w]) = (acc ++ List.replicate n w).toArray := by
      intro n
      induction n with
      | zero => intro acc; simp
      | succ n ih =>
        intro acc
        rw [List.replicate_succ, List.foldl_cons, show acc.toArray ++ #[w] = (acc ++ [w]).toArray by simp, ih, List.replicate_succ]
        simp
    have := this k.toNat []
    simpa using this
  have hb0 : C.s.heap.get? h.objs.size = none := by
    cases e : C.s.heap.get? h.objs.size with
    | none => rfl
    | some o => have := H.base _ _ e; rw [get_size] at this; cases this
  refine mul_here hob h0 h1 rfl ?_
  rw [hf]
  obtain ⟨k1, k2⟩ := H.addOwn (h' := h.push { cls := .type "list", data := .seq (List.replicate k.toNat w).toArray }) (a := h.objs.size) (o := .lst (List.replicate k.toNat a)) (push_get _) (get_size _) hb0
    fun F' β' st => ⟨List.replicate k.toNat w, ⟨0, Heap.get?_push_size _ rfl⟩, by simp, fun i v x ev ex => by
      have e1 := List.mem_of_getElem? ev
      have e2 := List.mem_of_getElem? ex
      rw [List.eq_of_mem_replicate e1, List.eq_of_mem_replicate e2]
      exact st hw⟩
  exact ⟨_, _, rfl, [h.objs.size], .own Os.length, l, _, k1, fun b o e _ => push_get _ _ _ e, fun b hb => by rw [List.mem_singleton.mp hb]; exact get_size _, k2, hQ⟩

theorem E_Repeat {L Rr : Expr} {pos : Pos} {Q : AV → List (Str × AV) → List AO → Prop} (hl : WE C d env L l Os (fun a l1 O1 => WE C d env Rr l1 O1 (fun b l2 O2 => ∃ j x k, a = .own j ∧ b = .int k ∧ O2[j]? = some (.lst [x]) ∧ 0 ≤ k ∧ k ≤ 10000 ∧ Q (.own O2.length) l2 (O2 ++ [.lst (List.replicate k.toNat x)])))) :
    WE C d env (.BinOp L .Mult Rr pos) l Os Q := fun p => by
  show Wi C d env p RV (eval L env >>= fun a => holding [a] (eval Rr env) >>= fun b => standAt pos >>= fun _ => PySem.operate [a, b] (binaryOp .Mult a b)) l Os Q
  refine Wi.bindV ((hl p).mono fun a l1 O1 h1 v => ?_)
  refine Wi.bindV (Wi.holding ((h1 ((v, a) :: p)).mono fun b l2 O2 zz u => Wi.standAt (Wi.operate ?_)))
  obtain ⟨j, x, k, e1, e2, e3, e4, e5, e6⟩ := zz
  subst e1; subst e2
  exact repeat_prim (.tail _ (.head _)) (.head _) e3 e4 e5 e6

/-- x.append(e) -/
theorem E_append {o elt : Expr} {apos pos : Pos} {Q : AV → List (Str × AV) → List AO → Prop}
    (ho : WE C d env o l Os (fun a l1 O1 => ∃ j xs, a = .own j ∧ O1[j]? = some (.lst xs) ∧ WE C d env elt l1 O1 (fun b l2 O2 => ∃ ys, O2[j]? = some (.lst ys) ∧ ys.length ≤ 10000 ∧ Q .none l2 (O2.set j (.lst (ys ++ [b]))))))
    (hbase : attributeBase o "append" env (eval o env) = eval o env)
    (hfew : ((backTo pos (starEach [elt] env)).all (fun x => !x.1) && (backToKw pos (keywordEach [] env)).all (fun x => x.1.isSome)
      && decide (([elt] : List Expr).length + ([] : List Keyword).length + (if ([] : List Keyword).isEmpty then 0 else 1) < 30)) = true)
    (hline : (apos.endLine == pos.line) = true) (htrees : backTo pos (starEach [elt] env) = [(false, eval elt env)]) :
    WE C d env (.Call (.Attribute o "append" apos) [elt] [] pos) l Os Q := fun p X β h H A tk r => by
  refine wpAny_Call_append hbase hfew hline htrees (wpAny_mono (ho p X β h H A tk r) (fun ov s1 zz => ?_) fun _ _ e => e)
  obtain ⟨h1, tk1, e1, β1, a, l1, O1, g1, g2, g3, g4, j, xs, ea, hj, he⟩ := zz
  subst e1; subst ea
  obtain ⟨D, hD, vs, ⟨n, hob⟩, hIs⟩ := g1.own hj
  have hov : ov = .ref D := by
    cases g4 with
    | own _ b' hb' => rw [hD] at hb'; cases hb'; rfl
  subst hov
  refine ⟨D, vs.toArray, rfl, ⟨_, n, hob, rfl, rfl, rfl⟩, ?_⟩
  refine wpAny_mono (he p X (β ++ β1) h1 g1 A tk1 r) (fun y s2 zz => ?_) fun _ _ e => e
  obtain ⟨h2, tk2, e2, β2, b, l2, O2, k1, k2, k3, k4, ys, hys, hlen, hq⟩ := zz
  subst e2
  have hD2 : (β ++ β1 ++ β2)[j]? = some D := get_append j D hD
  obtain ⟨D', hD', vs2, hpl, hIs2⟩ := k1.own hys
  rw [hD2] at hD'; cases hD'
  have hm : D ∈ mine env (β ++ β1 ++ β2) := List.mem_cons_of_mem _ (List.mem_append_right _ (List.mem_of_getElem? hD2))
  refine wpAny_list_append_plain hpl (fun h3 hpl3 hs3 => ?_) (by rw [List.size_toArray, hIs2.1]; exact Nat.le_trans hlen (by decide +kernel))
  have hk : ∀ b' o, b' ≠ D → h2.get? b' = some o → h3.get? b' = some o := fun b' o hb' e => (hs3.2 b' hb').trans e
  have H3 := k1.setOwn (o' := .lst (ys ++ [b])) hD2 hys hs3 ⟨vs2 ++ [y], by simpa using hpl3, by simp [hIs2.1], fun i v x ev ex => by
    by_cases q : i < vs2.length
    · rw [List.getElem?_append_left q] at ev
      rw [List.getElem?_append_left (hIs2.1 ▸ q)] at ex
      exact k1.rest hm hk (hIs2.2 i v x ev ex)
    · rw [List.getElem?_append_right (Nat.not_lt.mp q)] at ev
      rw [List.getElem?_append_right (hIs2.1 ▸ Nat.not_lt.mp q), ← hIs2.1] at ex
      cases hj : i - vs2.length with
      | zero => rw [hj] at ev ex; simp only [List.getElem?_cons_zero, Option.some.injEq] at ev ex; subst ev; subst ex; exact k1.rest hm hk k4
      | succ n => rw [hj] at ev; simp at ev⟩
  refine ⟨h3, tk2, rfl, β1 ++ β2, .none, l2, _, by rw [← List.append_assoc]; exact H3, ?_, ?_, by rw [← List.append_assoc]; exact .none, hq⟩
  · intro b' o e hb'
    have e1 := g2 b' o e hb'
    have hb1 : b' ∉ mine env (β ++ β1) := fun hm' => by
      rw [mine_append] at hm'
      rcases List.mem_append.mp hm' with q | q
      · exact hb' q
      · rw [g3 b' q] at e; cases e
    have e2 := k2 b' o e1 hb1
    refine hk b' o (fun q => ?_) e2
    rw [← q, mine_append] at hm
    rcases List.mem_append.mp hm with hm | hm
    · exact hb1 hm
    · rw [k3 b' hm] at e1; cases e1
  · intro b' hb'
    rcases List.mem_append.mp hb' with q | q
    · exact g3 b' q
    · cases e : h.get? b' with
      | none => rfl
      | some o =>
        obtain ⟨o', e'⟩ := H.still g1 g2 b' o e
        rw [k3 b' q] at e'; cases e'

theorem S_Expr {e : Expr} {pos : Pos} {Q : AF → List (Str × AV) → List AO → Prop} (he : WE C d env e l Os (fun _ l1 O1 => Q .next l1 O1)) (hi : interactive env = false) (hs : swapsWith e none pos.line env = pure false) : WS C d env (.Expr e pos) l Os Q := fun p X β h H A tk r =>
  wpAny_Expr_any (wpAny_mono (he p X β h H A tk r) (fun v s' zz => by obtain ⟨h', tk', e, β', a, l', O', g1, g2, g3, g4, g5⟩ := zz; exact ⟨h', tk', e, β', .next, l', O', g1, g2, g3, .next, g5⟩) fun _ _ e => e) hi hs
end
-- M7
section
variable {C : Cx} {d : Nat} {env : Env} {p : List (Value × AV)} {l : List (Str × AV)} {Os : List AO} {X : Addr → Prop} {β : List Addr} {h h' : Heap}

theorem Post.trans' {α A : Type} {R : RelT α A} {Q : A → List (Str × AV) → List AO → Prop} {β' : List Addr} {l1 : List (Str × AV)} {O1 : List AO} {h1 h2 : Heap} {u : α} (H : Hold C X env l β Os p h) (H1 : Hold C X env l1 (β ++ β') O1 p h1) (x : Pres env β h h1) (hf : ∀ b ∈ β', h.get? b = none)
    (y : Post C X env (β ++ β') p h1 R Q u h2) : Post C X env β p h R Q u h2 := y.trans x hf (fun _ hx => hx) (H.still H1 x)

noncomputable def Sub (l c : List (Str × AV)) : Prop := ∀ e ∈ c, l.lookup e.1 = some e.2
theorem Hold.sub {c : List (Str × AV)} (H : Hold C X env l β Os p h) (hs : Sub l c) : Hold C X env c β Os p h := H.vars_le fun x av e => by
  have : ∀ (c : List (Str × AV)), c.lookup x = some av → (x, av) ∈ c := by
    intro c
    induction c with
    | nil => intro e; cases e
    | cons y c ih =>
      obtain ⟨k, v⟩ := y
      intro e
      rw [List.lookup_cons] at e
      cases hb : x == k with
      | true => rw [hb] at e; cases e; rw [show x = k by simpa using hb]; exact List.mem_cons_self ..
      | false => rw [hb] at e; exact List.mem_cons_of_mem _ (ih e)
  exact hs (x, av) (this c e)
theorem WB_sub {ss : List Stmt} {c : List (Str × AV)} {Q : AF → List (Str × AV) → List AO → Prop} (hs : Sub l c) (H : WB C d env ss c Os Q) : WB C d env ss l Os Q := fun p X β h hh => H p X β h (hh.sub hs)
theorem WT_sub {e : Expr} {c : List (Str × AV)} {Q : Bool → List (Str × AV) → List AO → Prop} (hs : Sub l c) (H : WT C d env e c Os Q) : WT C d env e l Os Q := fun p X β h hh => H p X β h (hh.sub hs)
theorem WB_mono {ss : List Stmt} {Q Q' : AF → List (Str × AV) → List AO → Prop} (H : WB C d env ss l Os Q) (hq : ∀ f l O, Q f l O → Q' f l O) : WB C d env ss l Os Q' := fun p => (H p).mono hq

/-- where a while stands before its test -/
inductive WhileAt (C : Cx) (X : Addr → Prop) (env : Env) (p : List (Value × AV)) (β : List Addr) (h : Heap) (I : List (Str × AV) → List AO → Prop) (s : Shared) : Prop
  | mk (β' : List Addr) (l1 : List (Str × AV)) (O1 : List AO) (h1 : Heap) (tk1 : Nat) (e : s = (C.at h1 tk1)) (H : Hold C X env l1 (β ++ β') O1 p h1) (x : Pres env β h h1) (f : ∀ b ∈ β', h.get? b = none) (hI : I l1 O1) : WhileAt C X env p β h I s
/-- while, by what holds before each test and a number that falls -/
theorem S_While {t : Expr} {b : List Stmt} {pos : Pos} {Q : AF → List (Str × AV) → List AO → Prop} (I : Nat → List (Str × AV) → List AO → Prop) (n₀ : Nat) (h0 : I n₀ l Os)
    (turn : ∀ n l O, I n l O → WT C d env t l O (fun c l1 O1 => (c = true → WB C d env b l1 O1 (fun f l2 O2 => match f with | .next | .cont => ∃ m, m < n ∧ I m l2 O2 | .brk => Q .next l2 O2 | .ret v => Q (.ret v) l2 O2)) ∧ (c = false → Q .next l1 O1))) :
    WS C d env (.While t b [] pos) l Os Q := fun p X β h H A tk r => by
  refine wpAny_While (codeAny_whileLoop (fun n s => WhileAt C X env p β h (I n) s) ?_ n₀ ⟨[], l, Os, h, tk, rfl, by rw [List.append_nil]; exact H, Pres.refl env β h, by simp, h0⟩)
  rintro n s ⟨β', l1, O1, h1, tk1, rfl, H1, x1, f1, hI⟩
  refine wpAny_mono (turn n l1 O1 hI p X (β ++ β') h1 H1 A tk1 r) (fun c s2 zz => ?_) fun _ _ e => e.elim
  obtain ⟨h2, tk2, e2, β2, c', l2, O2, g1, g2, g3, g4, g5, g6⟩ := zz
  subst e2
  rw [show c = c' from g4]
  have k1 : Hold C X env l2 (β ++ (β' ++ β2)) O2 p h2 := by rw [← List.append_assoc]; exact g1
  have k2 : Pres env β h h2 := x1.trans f1 g2
  have k3 : ∀ b ∈ β' ++ β2, h.get? b = none := fun b hb => by
    rcases List.mem_append.mp hb with hb | hb
    · exact f1 b hb
    · cases e : h.get? b with
      | none => rfl
      | some o => obtain ⟨o', e'⟩ := H.still H1 x1 b o e; rw [g3 b hb] at e'; cases e'
  cases c' with
  | true =>
    refine wpAny_mono (g5 rfl p X _ h2 k1 A tk2 r) (fun f s3 zz => ?_) fun _ _ e => e.elim
    obtain ⟨h3, tk3, e3, post⟩ := zz
    subst e3
    have post := post.trans' H k1 k2 k3
    obtain ⟨β3, af, l3, O3, q1, q2, q3, q4, q5⟩ := post
    cases q4 with
    | next => obtain ⟨m, hm, hI'⟩ := q5; exact ⟨m, hm, β3, l3, O3, h3, tk3, rfl, q1, q2, q3, hI'⟩
    | cont => obtain ⟨m, hm, hI'⟩ := q5; exact ⟨m, hm, β3, l3, O3, h3, tk3, rfl, q1, q2, q3, hI'⟩
    | brk => exact ⟨h3, tk3, rfl, β3, .next, l3, O3, q1, q2, q3, .next, q5⟩
    | ret hi => exact ⟨h3, tk3, rfl, β3, .ret _, l3, O3, q1, q2, q3, .ret hi, q5⟩
  | false =>
    exact wpAny_execs_nil ⟨h2, tk2, rfl, β' ++ β2, .next, l2, O2, k1, k2, k3, .next, g6 rfl⟩

/-- the same state seen with other forbidden addresses, where some of them have changed -/
theorem Hold.reX {X X' W : Addr → Prop} (H : Hold C X env l β Os p h) (hk : ∀ b o, ¬ W b → h.get? b = some o → h'.get? b = some o) (hWF : ∀ b o, ¬ Fb X env β b → h.get? b = some o → ¬ W b)
    (hWm : ∀ b ∈ mine env β, ¬ W b) (hWc : ∀ x c, env.cells.lookup x = some c → ¬ W c) (hWb : ∀ b o, C.s.heap.get? b = some o → ¬ W b) (hXF : ∀ b o, ¬ Fb X env β b → h.get? b = some o → ¬ X' b)
    (hX' : ∀ a, X' a → C.s.heap.get? a = none ∧ ∃ o, h'.get? a = some o) (hm' : ∀ a ∈ mine env β, ¬ X' a) (hcl' : ∀ x c, env.cells.lookup x = some c → c ∈ ownCells env ∨ X' c) : Hold C X' env l β Os p h' := by
  have hF : ∀ b o, ¬ Fb X env β b → h.get? b = some o → ¬ Fb X' env β b := fun b o hb e hx => by
    rcases hx with hx | hx
    · exact hXF b o hb e hx
    · exact hb (.inr hx)
  have st : ∀ {v x}, Is C (Fb X env β) β h v x → Is C (Fb X' env β) β h' v x := fun hi => hi.stable (fun b o hb e => hk b o (hWF b o hb e) e) hF fun _ _ e => e
  have hloc : ¬ W env.locals := hWm _ (List.mem_cons_self ..)
  have hns : ∀ m, h.Ns env.locals m → h'.Ns env.locals m := fun m zz => by obtain ⟨o, es, ep, ho, r⟩ := zz; exact ⟨o, es, ep, hk _ _ hloc ho, r⟩
  have hcell : ∀ x c, env.cells.lookup x = some c → ∀ v, h.IsCell c v → h'.IsCell c v := fun x c e v ⟨o, ho, r⟩ => ⟨o, hk _ _ (hWc x c e) ho, r⟩
  refine ⟨H.ok, fun b o e => hk b o (hWb b o e) (H.base b o e), hX', H.nd, fun a ha => ?_, ?_, fun x c e => ?_, H.cown, H.capart, fun x av e => ?_, H.len, fun i a o ha ho => ?_, fun v av hm => st (H.pend v av hm)⟩
  · obtain ⟨h1, h2, o, h3⟩ := H.new a ha
    exact ⟨h1, hm' a ha, o, hk a o (hWm a ha) h3⟩
  · obtain ⟨m, hm⟩ := H.ns; exact ⟨m, hns m hm⟩
  · obtain ⟨h1, v, h2⟩ := H.cl x c e
    exact ⟨hcl' x c e, v, hcell x c e v h2⟩
  · obtain ⟨v, hv, hi⟩ := H.vars x av e
    refine ⟨v, ?_, st hi⟩
    rcases hv with ⟨k, m, hm, hx⟩ | ⟨k, c, hc, hx⟩
    · exact .inl ⟨k, m, hns m hm, hx⟩
    · exact .inr ⟨k, c, hc, hcell x c hc _ hx⟩
  · exact (H.objs i a o ha ho).stable (fun o e => hk a o (hWm a (List.mem_cons_of_mem _ (List.mem_append_right _ (List.mem_of_getElem? ha)))) e) (fun b o hb e => hk b o (hWF b o hb e) e) hF fun _ _ e => e

/-- a walk through a value by a for's target: what comes in the turn i -/
structure WalkG (C : Cx) (A : Around) (tg : Expr) (I : Addr) (fp wr : List Addr) (n : Nat) (Pv : Nat → Value → Heap → Heap → Prop) (St : Nat → Heap → Prop) : Prop where
  sub : ∀ b ∈ wr, b ∈ fp
  frame : ∀ i h h', St i h → (∀ b ∈ fp, ∀ o, h.get? b = some o → h'.get? b = some o) → St i h'
  ex : ∀ i h, St i h → ∀ b ∈ wr, ∃ o, h.get? b = some o
  item : ∀ i (s : Shared) (Q : Value → Shared → Prop), i < n → St i s.heap →
    (∀ v h' tk, Pv i v s.heap h' → St (i + 1) h' → (∀ b o, b ∉ wr → s.heap.get? b = some o → h'.get? b = some o) → Q v { s with heap := h', toks := tk }) →
    wpAny (model P0 C.w) A (pyNext (.ref I)) (fun r s₁ => match r with | none => False | some v => wpAny (model P0 C.w) A (letOwnedTupleGo tg (.ref I) v) (fun _ s₂ => Q v s₂) (fun _ _ => False) s₁) (fun _ _ => False) s
  done : ∀ (s : Shared) (Q : Option Value → Shared → Prop) (E : Value → Shared → Prop), St n s.heap →
    (∀ h' tk, (∀ b o, b ∉ wr → s.heap.get? b = some o → h'.get? b = some o) → Q none { s with heap := h', toks := tk }) → wpAny (model P0 C.w) A (pyNext (.ref I)) Q E s
  self : ∀ i (s : Shared) (Q : Value → Shared → Prop) (E : Value → Shared → Prop), St i s.heap → Q (.ref I) s → wpAny (model P0 C.w) A (pyIter (.ref I)) Q E s

/-- a value can be gone through, item by item; raw are the frozen things behind the items -/
noncomputable def Iters (C : Cx) (env : Env) (tg : Expr) (a : AV) (items : List AV) : Prop :=
  ∃ raw : List AV, ∀ {p : List (Value × AV)} {l : List (Str × AV)} {Os : List AO} {X : Addr → Prop} {β : List Addr} {h : Heap} {v : Value}, Hold C X env l β Os p h → (v, a) ∈ p →
    ∀ (d : Nat) (A : Around) (tk : Nat), Room d A → ∀ Q' : Value → Shared → Prop,
      (∀ (I : Addr) (fp wr : List Addr) (P : Nat → Value → Prop) (Pv : Nat → Value → Heap → Heap → Prop) (St : Nat → Heap → Prop) (h1 : Heap) (tk1 : Nat), WalkG C A tg I fp wr items.length Pv St → St 0 h1 → (∀ b o, h.get? b = some o → h1.get? b = some o) →
        (∀ b ∈ fp, b ∉ mine env β ∧ ∃ o, h1.get? b = some o) → (∀ b ∈ wr, h.get? b = none) → (∀ (i : Nat) u x, P i u → raw[i]? = some x → Is C (Fb X env β) β h u x) →
        (∀ (i : Nat) v g g' y (F : Addr → Prop) (β' : List Addr), Pv i v g g' → items[i]? = some y → (∀ b, F b → ∃ o, g.get? b = some o) → (∀ u x, P i u → raw[i]? = some x → Is C F β' g' u x) → Is C F β' g' v y) → Q' (.ref I) (C.at h1 tk1)) →
      wpAny (model P0 C.w) A (pyIter v) Q' (fun _ _ => False) (C.at h tk)

theorem WalkG.ofWalks {C : Cx} {A : Around} {x : Str} {px : Pos} {I : Addr} {fp wr : List Addr} {n : Nat} {P : Nat → Value → Prop} {St : Nat → Heap → Prop} (W : Walks P0 C.w A I fp wr n P St) (hex : ∀ i h, St i h → ∀ b ∈ wr, ∃ o, h.get? b = some o) :
    WalkG C A (.Name x px) I fp wr n (fun i v _ _ => P i v) St where
  sub := W.sub
  frame := W.frame
  ex := hex
  item := fun i s Q hi st hQ => W.item i s _ _ hi st fun v h' tk hP hst hk => wpAny_pure (hQ v h' tk hP hst hk)
  done := W.done
  self := W.self

theorem iters_list {xs : List AV} {x : Str} {px : Pos} : Iters C env (.Name x px) (.list xs) xs := ⟨xs, fun {p l Os X β h v} H hv d A tk r Q' hQ => by
  have hi := H.pend v _ hv
  cases hi with
  | @list a vs _ hf hL hl hx =>
  refine wpAny_pyIter_list hL ?_
  have hne : a ≠ h.objs.size := by obtain ⟨o, ho, _⟩ := hL; exact Nat.ne_of_lt (Heap.lt_size ho)
  have W := Walks.list (prog := P0) (w := C.w) r.hand h.objs.size a hne vs.toArray
  have hsz : vs.toArray.size = xs.length := by rw [List.size_toArray, hl]
  rw [hsz] at W
  refine hQ _ _ _ (fun i v => vs.toArray[i]? = some v) _ _ _ _ (WalkG.ofWalks W fun i g hg b hb => by rw [List.mem_singleton.mp hb]; obtain ⟨⟨o, ho, _⟩, _⟩ := hg; exact ⟨o, ho⟩) ⟨⟨_, Heap.get?_push_size _ rfl, rfl, rfl⟩, hL.push _⟩ (push_get _) (fun b hb => ?_) (fun b hb => ?_) (fun i u x hu hx' => ?_) fun i v g g' y F β' hu hy _ hr => hr v y hu hy
  · rcases List.mem_cons.mp hb with rfl | hb
    · exact ⟨fun hm => H.freshSize (.inr hm), _, Heap.get?_push_size _ rfl⟩
    · rw [List.mem_singleton.mp hb]
      obtain ⟨o, ho, _⟩ := hL
      exact ⟨fun hm => hf (.inr hm), o, push_get _ _ _ ho⟩
  · rw [List.mem_singleton.mp hb]; exact get_size _
  · exact hx i u x (by simpa using hu) hx'⟩

theorem iters_rng {a c : Int} {n : Nat} {x : Str} {px : Pos} : Iters C env (.Name x px) (.rng a c n) ((List.range n).map fun i : Nat => .int (a + i * c)) := ⟨(List.range n).map fun i : Nat => .int (a + i * c), fun {p l Os X β h v} H hv d A tk r Q' hQ => by
  have hi := H.pend v _ hv
  cases hi with
  | @rng rr _ b _ _ t u w hf hr hs hn =>
  refine wpAny_pyIter_range hr hs ?_
  have W := Walks.range (prog := P0) (w := C.w) r.hand h.objs.size a c n
  rw [hn]
  refine hQ h.objs.size [h.objs.size] [h.objs.size] (fun i v => ∃ t, v = .int (a + i * c) t) _ _ _ _ (WalkG.ofWalks (by simpa using W) fun i g hg b hb => by rw [List.mem_singleton.mp hb]; exact ⟨_, hg⟩) (by show IsRangeIter _ _ _ _ _; rw [show a + ((0 : Nat) : Int) * c = a by simp, show (n : Int) - ((0 : Nat) : Int) = n by simp]; exact Heap.get?_push_size _ rfl) (push_get _) (fun b hb => ?_) (fun b hb => ?_) (fun i u x hu hx' => ?_) fun i v g g' y F β' hu hy _ hr => hr v y hu hy
  · rw [List.mem_singleton.mp hb]
    exact ⟨fun hm => H.freshSize (.inr hm), _, Heap.get?_push_size _ rfl⟩
  · rw [List.mem_singleton.mp hb]; exact get_size _
  · obtain ⟨t', rfl⟩ := hu
    rw [List.getElem?_map] at hx'
    obtain ⟨j, hj, rfl⟩ := Option.map_eq_some_iff.mp hx'
    have : j = i := by
      have hlt := (List.getElem?_eq_some_iff.mp hj).1
      rw [List.getElem?_eq_getElem hlt] at hj
      simpa using hj.symm
    subst this
    exact .int _ _⟩

inductive RR2 (C : Cx) (X : Addr → Prop) (env : Env) (p : List (Value × AV)) (wr B : List Addr) (h2 : Heap) (Q : AF → List (Str × AV) → List AO → Prop) (f : Flow) (s : Shared) : Prop
  | mk (h4 : Heap) (tk4 : Nat) (β4 : List Addr) (af : AF) (l4 : List (Str × AV)) (O4 : List AO) (e : s = (C.at h4 tk4)) (k1 : Hold C X env l4 (B ++ β4) O4 p h4) (k2 : ∀ b o, h2.get? b = some o → b ∉ mine env B → b ∉ wr → h4.get? b = some o) (k3 : ∀ b ∈ β4, h2.get? b = none)
      (k4 : RF C (Fb X env (B ++ β4)) (B ++ β4) h4 f af) (k5 : Q af l4 O4) : RR2 C X env p wr B h2 Q f s

/-- where a loop stands between two turns -/
inductive LoopAt (C : Cx) (X : Addr → Prop) (env : Env) (p : List (Value × AV)) (wr B : List Addr) (h2 : Heap) (P : Nat → Value → Prop) (St : Nat → Heap → Prop) (raw items : List AV) (I : List AV → List (Str × AV) → List AO → Prop) (n : Nat) (s : Shared) : Prop
  | mk (i : Nat) (β' : List Addr) (l3 : List (Str × AV)) (O3 : List AO) (h3 : Heap) (tk3 : Nat) (e : s = (C.at h3 tk3)) (en : n = items.length - i) (ile : i ≤ items.length) (st : St i h3) (H : Hold C (fun a => X a ∨ a ∈ wr) env l3 (B ++ β') O3 p h3)
      (x : ∀ b o, h2.get? b = some o → b ∉ mine env B → b ∉ wr → h3.get? b = some o) (f : ∀ b ∈ β', h2.get? b = none) (it : ∀ i u y, P i u → raw[i]? = some y → Is C (Fb (fun a => X a ∨ a ∈ wr) env (B ++ β')) (B ++ β') h3 u y) (hI : I (items.take i) l3 O3) : LoopAt C X env p wr B h2 P St raw items I n s
theorem For_gen2 {tg : Expr} {TW : (Flow → Shared → Prop) → Shared → Prop} {G : Shared → Prop} {Q : AF → List (Str × AV) → List AO → Prop} {X : Addr → Prop} {B : List Addr} {h2 : Heap} {tk2 : Nat} {l1 : List (Str × AV)} {O1 : List AO} {A : Around} {J : Addr} {fp wr : List Addr} {P : Nat → Value → Prop} {Pv : Nat → Value → Heap → Heap → Prop} {St : Nat → Heap → Prop} {raw items : List AV}
    (hmono : ∀ Q Q' s, TW Q s → (∀ f s, Q f s → Q' f s) → TW Q' s) (r : Room d A) (H2 : Hold C (fun a => X a ∨ a ∈ wr) env l1 B O1 p h2) (W : WalkG C A tg J fp wr items.length Pv St) (st0 : St 0 h2)
    (hfp : ∀ b ∈ fp, b ∉ mine env B ∧ ∃ o, h2.get? b = some o) (hPv : ∀ (i : Nat) u y, P i u → raw[i]? = some y → Is C (Fb (fun a => X a ∨ a ∈ wr) env B) B h2 u y)
    (hXw : ∀ a, X a → a ∉ wr) (hcw : ∀ x c, env.cells.lookup x = some c → c ∉ wr ∧ (c ∈ ownCells env ∨ X c))
    (hPP : ∀ (i : Nat) v g g' y (F : Addr → Prop) (β' : List Addr), Pv i v g g' → items[i]? = some y → (∀ b, F b → ∃ o, g.get? b = some o) → (∀ u x, P i u → raw[i]? = some x → Is C F β' g' u x) → Is C F β' g' v y)
    (I : List AV → List (Str × AV) → List AO → Prop) (hI0 : I [] l1 O1)
    (hloop : ∀ (I : Nat → Shared → Prop), (∀ n s, I n s → wpAny (model P0 C.w) A (pyNext (.ref J)) (fun r s₁ => match r with
      | none => RR2 C X env p wr B h2 Q .next s₁
      | some v => wpAny (model P0 C.w) A (letOwnedTupleGo tg (.ref J) v) (fun _ s₁' => wpAny (model P0 C.w) A (assign tg env v) (fun _ s₂ => TW (fun f s₃ => match f with
          | .next | .cont => ∃ m, m < n ∧ I m s₃
          | .brk => RR2 C X env p wr B h2 Q .next s₃
          | .ret v => RR2 C X env p wr B h2 Q (.ret v) s₃) s₂) (fun _ _ => False) s₁') (fun _ _ => False) s₁) (fun _ _ => False) s) → ∀ n s, I n s → G s)
    (hturn : ∀ done y rest l2 O2, items = done ++ y :: rest → I done l2 O2 → WG C d env tg y l2 O2 (fun l2' O2' => ∀ X β h, Hold C X env l2' β O2' p h → ∀ tk, TW (fun f s' => Ends C (Post C X env β p h RF (fun f l3 O3 => match f with | .next | .cont => I (done ++ [y]) l3 O3 | .brk => Q .next l3 O3 | .ret v => Q (.ret v) l3 O3) f) s') (C.at h tk)))
    (hend : ∀ l2 O2, I items l2 O2 → Q .next l2 O2) : G (C.at h2 tk2) := by
  have hex := W.ex
  have hc1 : ∀ x c, env.cells.lookup x = some c → c ∉ wr := fun x c e => (hcw x c e).1
  have hX1 : ∀ a, (X a ∨ a ∈ wr) → C.s.heap.get? a = none := fun a ha => (H2.xin a ha).1
  refine hloop (LoopAt C X env p wr B h2 P St raw items I) ?_ items.length _
    ⟨0, [], l1, O1, h2, tk2, rfl, rfl, Nat.zero_le _, st0, by rw [List.append_nil]; exact H2, fun b o e _ _ => e, by simp, by rw [List.append_nil]; exact hPv, hI0⟩
  rintro n s ⟨i, β', l3, O3, h3, tk3, rfl, rfl, hile, hst, H3, x3, f3, hit3, hI⟩
  have hm3 : ∀ b ∈ mine env (B ++ β'), b ∉ wr := fun b hb hw => (H3.new b hb).2.1 (.inr hw)
  have hfp3 : ∀ b ∈ fp, b ∉ mine env (B ++ β') := fun b hb hm => by
    rw [mine_append] at hm
    rcases List.mem_append.mp hm with hm | hm
    · exact (hfp b hb).1 hm
    · obtain ⟨o, ho⟩ := (hfp b hb).2; rw [f3 b hm] at ho; cases ho
  -- the end: back to the world without the iterator
  have fin : ∀ {h4 h5 : Heap} {tk5 : Nat} {β4 : List Addr} {l4 : List (Str × AV)} {O4 : List AO} {f : Flow} {af : AF}, Hold C (fun a => X a ∨ a ∈ wr) env l4 (B ++ β4) O4 p h4 →
      (∀ b o, h2.get? b = some o → b ∉ mine env B → b ∉ wr → h4.get? b = some o) → (∀ b ∈ β4, h2.get? b = none) → (∀ b o, b ∉ wr → h4.get? b = some o → h5.get? b = some o) →
      RF C (Fb (fun a => X a ∨ a ∈ wr) env (B ++ β4)) (B ++ β4) h4 f af → Q af l4 O4 → RR2 C X env p wr B h2 Q f (C.at h5 tk5) := fun {h4 h5 tk5 β4 l4 O4 f af} k1 k2 k3 k6 k4 k5 => by
    have k1' : Hold C X env l4 (B ++ β4) O4 p h5 := k1.reX (W := fun b => b ∈ wr) (fun b o hb e => k6 b o hb e) (fun b o hb e hw => hb (.inl (.inr hw))) (fun b hb hw => (k1.new b hb).2.1 (.inr hw)) hc1 (fun b o e hw => by rw [hX1 b (.inr hw)] at e; cases e)
      (fun b o hb e hx => hb (.inl (.inl hx))) (fun a ha => ⟨hX1 a (.inl ha), by
        obtain ⟨_, o, e⟩ := k1.xin a (.inl ha)
        exact ⟨o, k6 a o (hXw a ha) e⟩⟩) (fun a ha hx => (k1.new a ha).2.1 (.inl hx)) fun x c e => (hcw x c e).2
    have stR : RF C (Fb X env (B ++ β4)) (B ++ β4) h5 f af := by
      cases k4 with
      | next => exact .next
      | brk => exact .brk
      | cont => exact .cont
      | ret hi => exact .ret (hi.stable (fun b o hb e => k6 b o (fun hw => hb (.inl (.inr hw))) e) (fun b o hb e hx => by
          rcases hx with hx | hx
          · exact hb (.inl (.inl hx))
          · exact hb (.inr hx)) fun _ _ e => e)
    exact ⟨h5, tk5, β4, af, l4, O4, rfl, k1', fun b o e hb hw => k6 b o hw (k2 b o e hb hw), k3, stR, k5⟩
  by_cases hlt : i < items.length
  · refine wpAny_mono (W.item i (C.at h3 tk3) (fun v s₁' => _) hlt hst fun u h4 tk4 hu hst4 hk4 => ?_) (fun r s₁ hr => by
      cases r with
      | none => exact hr.elim
      | some v => exact wpAny_mono hr (fun _ _ e => e) fun _ _ e => e.elim) fun _ _ e => e.elim
    have H4 : Hold C (fun a => X a ∨ a ∈ wr) env l3 (B ++ β') O3 p h4 := H3.reX (W := fun b => b ∈ wr) (fun b o hb e => hk4 b o hb e) (fun b o hb e hw => hb (.inl (.inr hw))) hm3 hc1 (fun b o e hw => by rw [hX1 b (.inr hw)] at e; cases e)
      (fun b o hb e hx => hb (.inl hx)) (fun a ha => ⟨hX1 a ha, by
        rcases ha with ha | ha
        · obtain ⟨_, o, e⟩ := H3.xin a (.inl ha)
          exact ⟨o, hk4 a o (hXw a ha) e⟩
        · exact hex _ _ hst4 a ha⟩) (fun a ha hx => (H3.new a ha).2.1 hx) fun x c e => (H3.cl x c e).1
    have hit4 : ∀ i u y, P i u → raw[i]? = some y → Is C (Fb (fun a => X a ∨ a ∈ wr) env (B ++ β')) (B ++ β') h4 u y := fun i u y hu hy =>
      (hit3 i u y hu hy).stable (fun b o hb e => hk4 b o (fun hw => hb (.inl (.inr hw))) e) (fun b o hb _ => hb) fun _ _ e => e
    have hy : items[i]? = some items[i] := List.getElem?_eq_getElem hlt
    have hiy := hPP i u h3 h4 items[i] (Fb (fun a => X a ∨ a ∈ wr) env (B ++ β')) (B ++ β') hu hy (fun b hb => by
      rcases hb with hb | hb
      · exact (H3.xin b hb).2
      · exact (H3.new b hb).2.2) fun u' y' hu' hy' => hit4 i u' y' hu' hy'
    have H5 := H4.push hiy
    refine wpAny_mono (hturn (items.take i) items[i] (items.drop (i + 1)) l3 O3 (by rw [← List.drop_eq_getElem_cons hlt, List.take_append_drop]) hI _ u (.head _) _ _ h4 H5 A tk4 r) (fun _ s5 zz => ?_) fun _ _ e => e.elim
    obtain ⟨h5, tk5, e5, β5, _, l5, O5, q1, q2, q3, _, q5⟩ := zz
    subst e5
    have q1' := q1.weak (p' := p) fun _ hx => .tail _ hx
    refine hmono _ _ _ (q5 _ _ h5 q1' tk5) (fun f s6 zz => ?_)
    obtain ⟨h6, tk6, e6, post⟩ := zz
    subst e6
    have post := post.trans' H4 q1' q2 q3
    obtain ⟨β6, af, l6, O6, w1, w2, w3, w4, w5⟩ := post
    have w1' : Hold C (fun a => X a ∨ a ∈ wr) env l6 (B ++ (β' ++ β6)) O6 p h6 := by rw [← List.append_assoc]; exact w1
    have x6 : ∀ b o, h2.get? b = some o → b ∉ mine env B → b ∉ wr → h6.get? b = some o := fun b o e hb hw => w2 b o (hk4 b o hw (x3 b o e hb hw)) fun hm => by
      rw [mine_append] at hm
      rcases List.mem_append.mp hm with hm | hm
      · exact hb hm
      · rw [f3 b hm] at e; cases e
    have f6 : ∀ b ∈ β' ++ β6, h2.get? b = none := fun b hb => by
      rcases List.mem_append.mp hb with hb | hb
      · exact f3 b hb
      · cases e : h2.get? b with
        | none => rfl
        | some o =>
          exfalso
          by_cases hm : b ∈ mine env (B ++ β')
          · obtain ⟨_, _, o', e'⟩ := H4.new b hm; rw [w3 b hb] at e'; cases e'
          · by_cases hw : b ∈ wr
            · obtain ⟨o', e'⟩ := hex _ _ hst4 b hw; rw [w3 b hb] at e'; cases e'
            · have := hk4 b o hw (x3 b o e (fun hm' => hm (by rw [mine_append]; exact List.mem_append_left _ hm')) hw)
              rw [w3 b hb] at this; cases this
    have go : ∀ m, m = items.take (i + 1) → I m l6 O6 → ∃ k, k < items.length - i ∧ LoopAt C X env p wr B h2 P St raw items I k (C.at h6 tk6) := fun m hm hI' => by
      subst hm
      refine ⟨items.length - (i + 1), by omega, i + 1, β' ++ β6, l6, O6, h6, tk6, rfl, rfl, hlt, ?_, w1', x6, f6, fun j u' y hu' hy' => ?_, hI'⟩
      · refine W.frame _ _ _ hst4 fun b hb o e => w2 b o e ?_
        exact hfp3 b hb
      · have := hit4 j u' y hu' hy'
        have := is_later this w2 w3
        rw [List.append_assoc] at this
        exact this
    have htk : items.take i ++ [items[i]] = items.take (i + 1) := by rw [List.take_succ_eq_append_getElem hlt]
    cases w4 with
    | next => exact go _ htk w5
    | cont => exact go _ htk w5
    | brk => exact fin w1' x6 f6 (fun b o _ e => e) .next w5
    | ret hi => exact fin w1' x6 f6 (fun b o _ e => e) (.ret (by rw [← List.append_assoc]; exact hi)) w5
  · have hin : i = items.length := by omega
    subst hin
    refine W.done (C.at h3 tk3) _ _ hst fun h4 tk4 hk4 => ?_
    rw [List.take_length] at hI
    exact fin H3 x3 f3 (fun b o hb e => hk4 b o hb e) .next (hend _ _ hI)

theorem RR2.post {wr β1 : List Addr} {l1 : List (Str × AV)} {O1 : List AO} {h1 h2 : Heap} {Q : AF → List (Str × AV) → List AO → Prop} {f : Flow} {s : Shared} (H : Hold C X env l β Os p h) (g1 : Hold C X env l1 (β ++ β1) O1 p h1) (g2 : Pres env β h h1) (g3 : ∀ b ∈ β1, h.get? b = none)
    (keep : ∀ b o, h1.get? b = some o → h2.get? b = some o) (hwr : ∀ b ∈ wr, h1.get? b = none) (x : RR2 C X env p wr (β ++ β1) h2 Q f s) : Ends C (Post C X env β p h RF Q f) s := by
  obtain ⟨h5, tk5, β4, af, l4, O4, rfl, q1, q2, q3, q4, q5⟩ := x
  have f4 : ∀ b ∈ β4, h1.get? b = none := fun b hb => by
    cases e : h1.get? b with
    | none => rfl
    | some o => have := keep b o e; rw [q3 b hb] at this; cases this
  have post : Post C X env (β ++ β1) p h1 RF Q f h5 := ⟨β4, af, l4, O4, q1, fun b o e hb => q2 b o (keep b o e) hb (fun hw => by rw [hwr b hw] at e; cases e), f4, q4, q5⟩
  exact ⟨h5, tk5, rfl, post.trans' H g1 g2 g3⟩
/-- into a loop: what its iterator owns is forbidden -/
theorem Hold.into {wr : List Addr} {l1 : List (Str × AV)} {O1 : List AO} {β1 : List Addr} {h1 h2 : Heap} (g1 : Hold C X env l1 β1 O1 p h1) (keep : ∀ b o, h1.get? b = some o → h2.get? b = some o) (hwr : ∀ b ∈ wr, h1.get? b = none) (hex : ∀ b ∈ wr, ∃ o, h2.get? b = some o) :
    Hold C (fun a => X a ∨ a ∈ wr) env l1 β1 O1 p h2 ∧ (∀ {v x}, Is C (Fb X env β1) β1 h1 v x → Is C (Fb (fun a => X a ∨ a ∈ wr) env β1) β1 h2 v x) ∧ (∀ a, X a → a ∉ wr) ∧ ∀ x c, env.cells.lookup x = some c → c ∉ wr ∧ (c ∈ ownCells env ∨ X c) := by
  have hb1 : ∀ b o, h1.get? b = some o → b ∉ wr := fun b o e hb => by rw [hwr b hb] at e; cases e
  have hm1 : ∀ b ∈ mine env β1, b ∉ wr := fun b hb hw => by obtain ⟨_, _, o, e⟩ := g1.new b hb; exact hb1 b o e hw
  have hF : ∀ b o, ¬ Fb X env β1 b → h1.get? b = some o → ¬ Fb (fun a => X a ∨ a ∈ wr) env β1 b := fun b o hb e hx => by
    rcases hx with (hx | hx) | hx
    · exact hb (.inl hx)
    · exact hb1 b o e hx
    · exact hb (.inr hx)
  refine ⟨g1.reX (W := fun _ => False) (fun b o _ e => keep b o e) (fun _ _ _ _ => id) (fun _ _ => id) (fun _ _ _ => id) (fun _ _ _ => id)
    (fun b o hb e hx => hx.elim (fun q => hb (.inl q)) (hb1 b o e)) (fun a ha => ?_) (fun a ha hx => hx.elim (fun q => (g1.new a ha).2.1 q) (hm1 a ha)) fun x c e => (g1.cl x c e).1.imp id .inl,
    fun hi => hi.stable (fun b o _ e => keep b o e) hF fun _ _ e => e, fun a ha hw => ?_, fun x c e => ?_⟩
  · rcases ha with ha | ha
    · obtain ⟨h0, o, e⟩ := g1.xin a ha; exact ⟨h0, o, keep a o e⟩
    · refine ⟨?_, hex a ha⟩
      cases e : C.s.heap.get? a with
      | none => rfl
      | some o => exact absurd ha (hb1 a o (g1.base a o e))
  · obtain ⟨_, o, e⟩ := g1.xin a ha; exact hb1 a o e hw
  · obtain ⟨h0, v, o, ho, _⟩ := g1.cl x c e
    exact ⟨hb1 c o ho, h0⟩

theorem For_gen {tg : Expr} {Bd : Sem Flow} {G : Shared → Prop} {Q : AF → List (Str × AV) → List AO → Prop} {X : Addr → Prop} {β β1 : List Addr} {h h1 h2 : Heap} {tk2 : Nat} {l1 : List (Str × AV)} {O1 : List AO} {A : Around} {J : Addr} {fp wr : List Addr} {P : Nat → Value → Prop} {Pv : Nat → Value → Heap → Heap → Prop} {St : Nat → Heap → Prop} {raw items : List AV}
    (r : Room d A) (H : Hold C X env l β Os p h) (g1 : Hold C X env l1 (β ++ β1) O1 p h1) (g2 : Pres env β h h1) (g3 : ∀ b ∈ β1, h.get? b = none) (W : WalkG C A tg J fp wr items.length Pv St) (st0 : St 0 h2) (keep : ∀ b o, h1.get? b = some o → h2.get? b = some o)
    (hfp : ∀ b ∈ fp, b ∉ mine env (β ++ β1) ∧ ∃ o, h2.get? b = some o) (hwr : ∀ b ∈ wr, h1.get? b = none) (hP : ∀ (i : Nat) u x, P i u → raw[i]? = some x → Is C (Fb X env (β ++ β1)) (β ++ β1) h1 u x)
    (hPP : ∀ (i : Nat) v g g' y (F : Addr → Prop) (β' : List Addr), Pv i v g g' → items[i]? = some y → (∀ b, F b → ∃ o, g.get? b = some o) → (∀ u x, P i u → raw[i]? = some x → Is C F β' g' u x) → Is C F β' g' v y)
    (I : List AV → List (Str × AV) → List AO → Prop) (hI0 : I [] l1 O1)
    (hloop : ∀ (I : Nat → Shared → Prop), (∀ n s, I n s → wpAny (model P0 C.w) A (pyNext (.ref J)) (fun r s₁ => match r with
      | none => Ends C (Post C X env β p h RF Q .next) s₁
      | some v => wpAny (model P0 C.w) A (letOwnedTupleGo tg (.ref J) v) (fun _ s₁' => wpAny (model P0 C.w) A (assign tg env v) (fun _ s₂ => wpAny (model P0 C.w) A Bd (fun f s₃ => match f with
          | .next | .cont => ∃ m, m < n ∧ I m s₃
          | .brk => Ends C (Post C X env β p h RF Q .next) s₃
          | .ret v => Ends C (Post C X env β p h RF Q (.ret v)) s₃) (fun _ _ => False) s₂) (fun _ _ => False) s₁') (fun _ _ => False) s₁) (fun _ _ => False) s) → ∀ n s, I n s → G s)
    (hturn : ∀ done y rest l2 O2, items = done ++ y :: rest → I done l2 O2 → WG C d env tg y l2 O2 (fun l2' O2' => ∀ p, Wi C d env p RF Bd l2' O2' (fun f l3 O3 => match f with | .next | .cont => I (done ++ [y]) l3 O3 | .brk => Q .next l3 O3 | .ret v => Q (.ret v) l3 O3)))
    (hend : ∀ l2 O2, I items l2 O2 → Q .next l2 O2) : G (C.at h2 tk2) := by
  obtain ⟨H2, hst, hXw, hcw⟩ := g1.into keep hwr (W.ex 0 h2 st0)
  refine For_gen2 (Q := Q) (TW := fun Q s => wpAny (model P0 C.w) A Bd Q (fun _ _ => False) s) (G := G) (fun Q Q' s hq hqq => wpAny_mono hq (fun f s h => hqq f s h) fun _ _ e => e) r H2 W st0 hfp (fun i u y hu hy => hst (hP i u y hu hy)) hXw hcw hPP I hI0 ?_ ?_ hend
  · intro I' turn n s hI
    have fin : ∀ {f s}, RR2 C X env p wr (β ++ β1) h2 Q f s → Ends C (Post C X env β p h RF Q f) s := fun x => x.post H g1 g2 g3 keep hwr
    refine hloop I' (fun n s hI => wpAny_mono (turn n s hI) (fun r s₁ h₁ => ?_) fun _ _ e => e) n s hI
    cases r with
    | none => exact fin h₁
    | some v =>
      refine wpAny_mono h₁ (fun _ s₂ h₂ => wpAny_mono h₂ (fun _ s₃ h₃ => wpAny_mono h₃ (fun f s₄ h₄ => ?_) fun _ _ e => e) fun _ _ e => e) fun _ _ e => e
      cases f with
      | next => exact h₄
      | cont => exact h₄
      | brk => exact fin h₄
      | ret v => exact fin h₄
  · intro done y rest l2 O2 e hI p' v' hv'
    refine (hturn done y rest l2 O2 e hI p' v' hv').mono fun _ l3 O3 h3 => ?_
    intro X' β' h' H' tk'
    exact h3 _ X' β' h' H' A tk' r

theorem For_core {tg : Expr} {b : List Stmt} {Q : AF → List (Str × AV) → List AO → Prop} {X : Addr → Prop} {β β1 : List Addr} {h h1 h2 : Heap} {tk2 : Nat} {l1 : List (Str × AV)} {O1 : List AO} {A : Around} {J : Addr} {fp wr : List Addr} {P : Nat → Value → Prop} {Pv : Nat → Value → Heap → Heap → Prop} {St : Nat → Heap → Prop} {raw items : List AV}
    (r : Room d A) (H : Hold C X env l β Os p h) (g1 : Hold C X env l1 (β ++ β1) O1 p h1) (g2 : Pres env β h h1) (g3 : ∀ b ∈ β1, h.get? b = none) (W : WalkG C A tg J fp wr items.length Pv St) (st0 : St 0 h2) (keep : ∀ b o, h1.get? b = some o → h2.get? b = some o)
    (hfp : ∀ b ∈ fp, b ∉ mine env (β ++ β1) ∧ ∃ o, h2.get? b = some o) (hwr : ∀ b ∈ wr, h1.get? b = none) (hP : ∀ (i : Nat) u x, P i u → raw[i]? = some x → Is C (Fb X env (β ++ β1)) (β ++ β1) h1 u x)
    (hPP : ∀ (i : Nat) v g g' y (F : Addr → Prop) (β' : List Addr), Pv i v g g' → items[i]? = some y → (∀ b, F b → ∃ o, g.get? b = some o) → (∀ u x, P i u → raw[i]? = some x → Is C F β' g' u x) → Is C F β' g' v y)
    (I : List AV → List (Str × AV) → List AO → Prop) (hI0 : I [] l1 O1)
    (hturn : ∀ done y rest l2 O2, items = done ++ y :: rest → I done l2 O2 → WG C d env tg y l2 O2 (fun l2' O2' => WB C d env b l2' O2' (fun f l3 O3 => match f with | .next | .cont => I (done ++ [y]) l3 O3 | .brk => Q .next l3 O3 | .ret v => Q (.ret v) l3 O3)))
    (hend : ∀ l2 O2, I items l2 O2 → Q .next l2 O2) :
    codeAny (model P0 C.w) A (.forLoop tg (.ref J) b [] env) (fun r s' => match r with | .ok f => Ends C (Post C X env β p h RF Q f) s' | .error e => cameBackBy (model P0 C.w) A env (fun _ _ => False) e s') (C.at h2 tk2) :=
  For_gen r H g1 g2 g3 W st0 keep hfp hwr hP hPP I hI0 (Bd := execs b env) (fun I turn n s hI => codeAny_forLoop_any I (fun n s hI => wpAny_mono (turn n s hI) (fun r s₁ h₁ => by
    cases r with
    | none => exact wpAny_execs_nil h₁
    | some v => exact wpAny_mono h₁ (fun _ _ h₂ => wpAny_mono h₂ (fun _ _ h₃ => wpAny_mono h₃ (fun f _ h₄ => by cases f <;> exact h₄) fun _ _ e => e.elim) fun _ _ e => e.elim) fun _ _ e => e.elim) fun _ _ e => e.elim) n hI) hturn hend

/-- for .. in a -/
theorem S_For {tg : Expr} {iter : Expr} {b : List Stmt} {pos : Pos} {Q : AF → List (Str × AV) → List AO → Prop}
    (hi : WE C d env iter l Os (fun a l1 O1 => ∃ items, Iters C env tg a items ∧ ∃ I : List AV → List (Str × AV) → List AO → Prop, I [] l1 O1 ∧
      (∀ done y rest l2 O2, items = done ++ y :: rest → I done l2 O2 → WG C d env tg y l2 O2 (fun l2' O2' => WB C d env b l2' O2' (fun f l3 O3 => match f with | .next | .cont => I (done ++ [y]) l3 O3 | .brk => Q .next l3 O3 | .ret v => Q (.ret v) l3 O3))) ∧
      (∀ l2 O2, I items l2 O2 → Q .next l2 O2)))
    (hs : ∀ x, foldedSetIterable iter env x = pure x := by intro _; rfl) : WS C d env (.For tg iter b [] pos) l Os Q := fun p X β h H A tk r => by
  refine wpAny_For (wpAny_mono (hi p X β h H A tk r) (fun v s1 zz => ?_) fun _ _ e => e.elim) hs
  obtain ⟨h1, tk1, e1, β1, a, l1, O1, g1, g2, g3, g4, items, ⟨raw, hit⟩, I, hI0, hturn, hend⟩ := zz
  subst e1
  exact hit (g1.push g4) (.head _) d A tk1 r _ fun J fp wr P Pv St h2 tk2 W st0 keep hfp hwr hP hPP => For_core r H g1 g2 g3 W st0 keep hfp hwr hP hPP I hI0 hturn hend

/-- enumerate: the pairs of a list -/
noncomputable def pairsOf (xs : List AV) : List AV := xs.zipIdx.map fun e => .tup [.int e.2, e.1]

theorem WalkG.enum {A : Around} (hh : A.handled = none) {elts : List Expr} {k : Nat} {ps : Pos} {e it a : Addr} {vs : Array Value} (hei : e ≠ it) (hle : a ≠ e) (hli : a ≠ it) :
    WalkG C A (.Tuple elts k ps) e [e, it, a] [e, it] vs.size (fun i v h h' => ∃ T t x, v = .ref T ∧ h.get? T = none ∧ h'.IsTuple T #[.int i t, x] ∧ vs[i]? = some x)
      (fun i h => (∃ old, IsEnum h e it i old) ∧ h.IsListIter it a i ∧ h.IsList a vs) where
  sub := (WalksT.enumerate (prog := P0) (w := C.w) hh e it a hei hle hli vs).sub
  frame := (WalksT.enumerate (prog := P0) (w := C.w) hh e it a hei hle hli vs).frame
  ex := fun i h ⟨⟨old, he⟩, ⟨o, ho, _⟩, _⟩ b hb => by
    rcases List.mem_cons.mp hb with rfl | hb
    · exact ⟨_, he⟩
    · rw [List.mem_singleton.mp hb]; exact ⟨o, ho⟩
  item := fun i s Q hi st hQ => by
    have W := WalksT.enumerate (prog := P0) (w := C.w) hh e it a hei hle hli vs
    refine W.item i s _ _ hi st fun T vals h' tk hv hT hIT hM hk => ?_
    refine W.go elts k ps i T _ _ _ hM fun h2 st2 hk2 => ?_
    have hap := W.apart i T h' hM
    obtain ⟨t, x, hx, rfl⟩ := hv
    obtain ⟨o, ho, r⟩ := hIT
    refine hQ (.ref T) h2 tk ⟨T, t, x, rfl, ?_, ⟨o, hk2 T o hap ho, r⟩, hx⟩ st2 fun b o hb e => hk2 b o hb (hk b o hb e)
    cases q : s.heap.get? T with
    | none => rfl
    | some o' => exact absurd (Heap.lt_size q) (Nat.not_lt.mpr hT)
  done := (WalksT.enumerate (prog := P0) (w := C.w) hh e it a hei hle hli vs).done
  self := (WalksT.enumerate (prog := P0) (w := C.w) hh e it a hei hle hli vs).self

theorem pairsOf_get {xs : List AV} {i : Nat} {y : AV} (h : (pairsOf xs)[i]? = some y) : ∃ x, xs[i]? = some x ∧ y = .tup [.int i, x] := by
  unfold pairsOf at h
  rw [List.getElem?_map] at h
  obtain ⟨z, hz, rfl⟩ := Option.map_eq_some_iff.mp h
  rw [List.getElem?_zipIdx] at hz
  obtain ⟨x, hx, rfl⟩ := Option.map_eq_some_iff.mp hz
  exact ⟨x, hx, by simp⟩

/-- for i, x in enumerate(e) -/
theorem S_ForEnum {elts : List Expr} {k : Nat} {ps : Pos} {x : Str} {np cp : Pos} {e : Expr} {b : List Stmt} {pos : Pos} {Q : AF → List (Str × AV) → List AO → Prop} (hx : x = ("enumerate" : Str)) (hk : env.kindOf x = some .globalImplicit)
    (hi : WE C d env e l Os (fun a l1 O1 => ∃ xs, a = .list xs ∧ ∃ I : List AV → List (Str × AV) → List AO → Prop, I [] l1 O1 ∧
      (∀ done y rest l2 O2, xs = done ++ y :: rest → I done l2 O2 → WG C d env (.Tuple elts k ps) (.tup [.int done.length, y]) l2 O2 (fun l2' O2' => WB C d env b l2' O2' (fun f l3 O3 => match f with | .next | .cont => I (done ++ [y]) l3 O3 | .brk => Q .next l3 O3 | .ret v => Q (.ret v) l3 O3))) ∧
      (∀ l2 O2, I xs l2 O2 → Q .next l2 O2)))
    (he : starEach [e] env = [(false, eval e env)] := by rfl)
    (hc : eval (.Call (.Name x np) [e] [] cp) env = (do callWith cp (← eval (.Name x np) env) [] (backTo cp (starEach [e] env)) (backToKw cp (keywordEach [] env))) := by rfl)
    (hs : ∀ v, foldedSetIterable (.Call (.Name x np) [e] [] cp) env v = pure v := by intro _; rfl) : WS C d env (.For (.Tuple elts k ps) (.Call (.Name x np) [e] [] cp) b [] pos) l Os Q := by
  subst hx
  intro p X β h H A tk r
  refine wpAny_For (Call_ (callee_prim (f := .type "enumerate") H (by decide +kernel) (by decide +kernel) hk (by decide +kernel) (by decide +kernel) ?_) hc) hs
  refine PyProof.Rows.callWith_type1 ?_ he rfl
  rw [he]
  refine wpAny_bind (wpAny_mono (hi p X β h H A tk r) (fun v s1 zz => ?_) fun _ _ e => e.elim)
  obtain ⟨h1, tk1, e1, β1, a, l1, O1, g1, g2, g3, g4, xs, ea, I, hI0, hturn, hend⟩ := zz
  subst e1; subst ea
  refine wpAny_bind (wpAny_pure ?_)
  refine wpAny_bind (wpAny_holding (wpAny_pure (wpAny_pure ?_)))
  cases g4 with
  | @list a vs _ hf hL hl hx =>
  obtain ⟨m, hm⟩ := g1.ns
  have Fm : Fr {} env.locals h1 m := ⟨hm, fun b o e => by simp [Heap.get?] at e, Nat.zero_le _⟩
  refine enum_rows Fm hL fun h2 hE hit hL2 _ hk2 n1 n2 n3 _ _ => ?_
  refine wpAny_pyIter_enum hE ?_
  have hsz : vs.toArray.size = (pairsOf xs).length := by rw [List.size_toArray, hl]; simp [pairsOf]
  have W := WalkG.enum (C := C) (elts := elts) (k := k) (ps := ps) r.hand n1 n2 n3 (vs := vs.toArray)
  rw [hsz] at W
  have hnone : h1.get? (h1.objs.size + 1) = none := by
    cases q : h1.get? (h1.objs.size + 1) with
    | none => rfl
    | some o => exact absurd (Heap.lt_size q) (Nat.not_lt.mpr (Nat.le_succ _))
  refine For_core (P := fun i u => vs[i]? = some u) (raw := xs) (items := pairsOf xs) r H g1 g2 g3 W ⟨⟨_, hE⟩, hit, hL2⟩ hk2 (fun b hb => ?_) (fun b hb => ?_) (fun i u x hu hx' => hx i u x hu hx') ?_ (fun done l O => I (xs.take done.length) l O) (by simpa using hI0) ?_ ?_
  · rcases List.mem_cons.mp hb with rfl | hb
    · exact ⟨fun hm => g1.fresh hnone (.inr hm), _, hE⟩
    · rcases List.mem_cons.mp hb with rfl | hb
      · obtain ⟨o, ho, _⟩ := hit
        exact ⟨fun hm => g1.freshSize (.inr hm), o, ho⟩
      · rw [List.mem_singleton.mp hb]
        obtain ⟨o, ho, _⟩ := hL2
        exact ⟨fun hm => hf (.inr hm), o, ho⟩
  · rcases List.mem_cons.mp hb with rfl | hb
    · exact hnone
    · rw [List.mem_singleton.mp hb]; exact get_size _
  · rintro i v g g' y F β' ⟨T, t, x, rfl, hT, hIT, hx'⟩ hy hF hr
    obtain ⟨z, hz, rfl⟩ := pairsOf_get hy
    have hxv : vs[i]? = some x := by simpa using hx'
    refine .tup (vs := [.int i t, x]) (fun hb => ?_) hIT rfl fun j u w hu hw => ?_
    · obtain ⟨o, ho⟩ := hF T hb; rw [hT] at ho; cases ho
    · match j with
      | 0 => simp only [List.getElem?_cons_zero, Option.some.injEq] at hu hw; subst hu; subst hw; exact .int _ _
      | 1 => simp at hu hw; subst hu; subst hw; exact hr x z hxv hz
      | j + 2 => simp at hu
  · intro done y rest l2 O2 he hI
    have hlen : done.length < xs.length := by
      have := congrArg List.length he
      simp [pairsOf] at this; omega
    have hy : (pairsOf xs)[done.length]? = some y := by rw [he]; simp
    obtain ⟨z, hz, rfl⟩ := pairsOf_get hy
    have hxz : xs[done.length] = z := by rw [List.getElem?_eq_getElem hlen] at hz; exact Option.some.inj hz
    have := hturn (xs.take done.length) z (xs.drop (done.length + 1)) l2 O2 (by rw [← hxz, ← List.drop_eq_getElem_cons hlen, List.take_append_drop]) hI
    rw [List.length_take, Nat.min_eq_left (Nat.le_of_lt hlen)] at this
    have ht : xs.take done.length ++ [z] = xs.take (done ++ [AV.tup [.int done.length, z]]).length := by
      rw [List.length_append, List.length_singleton, List.take_succ_eq_append_getElem hlen, hxz]
    intro p v hv
    refine (this p v hv).mono fun _ l3 O3 h3 => ?_
    refine WB_mono h3 fun f l4 O4 h4 => ?_
    cases f with
    | next => rw [← ht]; exact h4
    | cont => rw [← ht]; exact h4
    | brk => exact h4
    | ret v => exact h4
  · intro l2 O2 hI
    rw [show (pairsOf xs).length = xs.length by simp [pairsOf], List.take_length] at hI
    exact hend l2 O2 hI
end
-- M8
/-- nothing of a frame's own in it -/
inductive Nown : AV → Prop
  | none : Nown .none
  | bool (b : Bool) : Nown (.bool b)
  | int (i : Int) : Nown (.int i)
  | fn (i : Nat) : Nown (.fn i)
  | tup {xs : List AV} : (∀ x ∈ xs, Nown x) → Nown (.tup xs)
  | list {xs : List AV} : (∀ x ∈ xs, Nown x) → Nown (.list xs)
  | dict (es : List (List Int × Int)) : Nown (.dict es)
  | rng (a c : Int) (n : Nat) : Nown (.rng a c n)
  | slc (lo hi : Option Int) : Nown (.slc lo hi)

theorem is_nown {C : Cx} {F : Addr → Prop} {β : List Addr} {h : Heap} {v : Value} {x : AV} (H : Is C F β h v x) (hn : Nown x) (β' : List Addr) : Is C F β' h v x := by
  induction H with
  | none => exact .none
  | bool b => exact .bool b
  | int i t => exact .int i t
  | fn i a hi h => exact .fn i a hi h
  | own i a h => cases hn
  | tup hf ht hl hx ih =>
    cases hn with
    | tup hn => exact .tup hf ht hl fun i v x e e' => ih i v x e e' (hn x (List.mem_of_getElem? e'))
  | list hf ht hl _ ih =>
    cases hn with
    | list hn => exact .list hf ht hl fun i v x e e' => ih i v x e e' (hn x (List.mem_of_getElem? e'))
  | dict hf hm hd hks hl hes => exact .dict hf hm hd hks hl hes
  | rng hf hr hs hn' => exact .rng hf hr hs hn'
  | slc hf hr h1 h2 => exact .slc hf hr h1 h2

/-- what a value is worth when its frame is gone -/
inductive Fin (n : Nat) (Os : List AO) : AV → AV → Prop
  | same {a : AV} : Nown a → Fin n Os a a
  | lst {j : Nat} {xs : List AV} : ListOf Os j = some xs → n ≤ j → (∀ x ∈ xs, Nown x) → Fin n Os (.own j) (.list xs)
  | dct {j : Nat} {es : List (List Int × Int)} : Os[j]? = some (.dct es) → n ≤ j → Fin n Os (.own j) (.dict es)
  | tup {xs ys : List AV} : xs.length = ys.length → (∀ (i : Nat) x y, xs[i]? = some x → ys[i]? = some y → Fin n Os x y) → Fin n Os (.tup xs) (.tup ys)

inductive FEnd (C : Cx) (X : Addr → Prop) (h : Heap) (Q : AV → Prop) (v : Value) (h' : Heap) : Prop
  | mk (av : AV) : (∀ b o, h.get? b = some o → h'.get? b = some o) → Is C X [] h' v av → Q av → FEnd C X h Q v h'
noncomputable def WF (C : Cx) (d : Nat) (i : Nat) (args : List AV) (Q : AV → Prop) : Prop :=
  ∀ (X : Addr → Prop) (h : Heap) (vs : List Value) (a : Addr), C.mg (nameAt i) = some (.ref a) → (∀ b o, C.s.heap.get? b = some o → h.get? b = some o) → (∀ a, X a → C.s.heap.get? a = none ∧ ∃ o, h.get? a = some o) → IsL C X [] h vs args →
    Wp C d (call (.ref a) vs) h (FEnd C X h Q)

section
variable {C : Cx} {d : Nat} {env : Env} {p : List (Value × AV)} {l : List (Str × AV)} {Os : List AO} {X : Addr → Prop} {β : List Addr} {h h' : Heap}

theorem WF_mono {i : Nat} {args : List AV} {Q Q' : AV → Prop} (H : WF C d i args Q) (hq : ∀ a, Q a → Q' a) : WF C d i args Q' := fun X h vs a h1 h2 h3 h4 =>
  (H X h vs a h1 h2 h3 h4).mono fun v h' zz => by
    cases zz with
    | mk av g1 g2 g3 => exact ⟨av, g1, g2, hq _ g3⟩
theorem WF_le {i d' : Nat} {args : List AV} {Q : AV → Prop} (H : WF C d' i args Q) (hd : d' ≤ d) : WF C d i args Q := fun X h vs a h1 h2 h3 h4 => (H X h vs a h1 h2 h3 h4).le hd

theorem fin_is {n : Nat} {X' : Addr → Prop} {v : Value} {a r : AV} (H : Hold C X env l β Os p h) (hi : Is C (Fb X env β) β h v a) (hf : Fin n Os a r) (hX : ∀ b o, ¬ Fb X env β b → h.get? b = some o → ¬ X' b) (hO : ∀ (j : Nat) b, n ≤ j → β[j]? = some b → ¬ X' b) (β' : List Addr) : Is C X' β' h v r := by
  have st : ∀ {v x}, Is C (Fb X env β) β h v x → Nown x → Is C X' β' h v x := fun hi hn => (is_nown hi hn []).stable (fun b o _ e => e) hX fun _ _ e => by simp at e
  induction hf generalizing v with
  | same hn => exact st hi hn
  | @lst j xs hl hj hn =>
    obtain ⟨b, vs, o, hb, ho, hL, hIs⟩ := H.listOf hl
    cases hi with
    | own _ b' hb' =>
      rw [hb] at hb'; cases hb'
      exact .list (hO j b hj hb) hL hIs.1 fun i u x eu ex => st (hIs.2 i u x eu ex) (hn x (List.mem_of_getElem? ex))
  | @dct j es ho hj =>
    obtain ⟨b, hb, xs, hd, hks, hlen, hes⟩ := H.own ho
    cases hi with
    | own _ b' hb' =>
      rw [hb] at hb'; cases hb'
      refine .dict (hO j b hj hb) (C.not_mods (H.new b (List.mem_cons_of_mem _ (List.mem_append_right _ (List.mem_of_getElem? hb)))).1) hd (fun x hx => ?_) hlen hes
      obtain ⟨_, _, _, _, _, _, _, his, _⟩ := hd
      obtain ⟨o, _, _, ho, _⟩ := his x hx
      exact hX _ o (hks x hx) ho
  | @tup xs ys hl hxy ih =>
    cases hi with
    | @tup b vs _ hf ht hlv hx =>
      obtain ⟨o, ho, r⟩ := id ht
      refine .tup (hX _ o hf ho) ht (hlv.trans hl) fun i u y eu ey => ?_
      have hi' : i < xs.length := by rw [hl]; exact (List.getElem?_eq_some_iff.mp ey).1
      have ex : xs[i]? = some xs[i] := List.getElem?_eq_getElem hi'
      exact ih i xs[i] y ex ey (hx i u _ eu ex)

theorem lookup_snoc {α : Type} (x : Str) (y : Str × α) : ∀ xs : List (Str × α), (xs ++ [y]).lookup x = (xs.lookup x).or (if x == y.1 then some y.2 else none)
  | [] => by
    obtain ⟨a, b⟩ := y
    rw [List.nil_append, List.lookup_cons, List.lookup_nil, Option.none_or]
    cases x == a <;> rfl
  | (a, b) :: xs => by
    rw [List.cons_append, List.lookup_cons, List.lookup_cons]
    cases x == a with
    | true => rfl
    | false => exact lookup_snoc x y xs

/-- a call of a def of the text -/
theorem E_Call {func : Expr} {e : Expr} {rest : List Expr} {pos : Pos} {Q : AV → List (Str × AV) → List AO → Prop}
    (hf : WE C d env func l Os (fun f l1 O1 => ∃ i, f = .fn i ∧ WA C d env (e :: rest) pos l1 O1 (fun as l2 O2 => (∀ x ∈ as, Nown x) ∧ WF C d i as (fun r => Q r l2 O2))))
    (hc : eval (.Call func (e :: rest) [] pos) env = (do callWith pos (← eval func env) [] (backTo pos (starEach (e :: rest) env)) (backToKw pos (keywordEach [] env))) := by rfl)
    (he : starEach (e :: rest) env = (false, eval e env) :: starEach rest env := by rfl) : WE C d env (.Call func (e :: rest) [] pos) l Os Q := fun p X β h H A tk r => by
  refine Call_ (wpAny_mono (hf p X β h H A tk r) (fun f s1 zz => ?_) fun _ _ e => e) hc
  obtain ⟨h1, tk1, e1, β1, af, l1, O1, g1, g2, g3, g4, i, ei, ha⟩ := zz
  subst e1; subst ei
  cases g4 with
  | fn _ a hi hg =>
  obtain ⟨a', o, pm, code, doc, hg', ho, hdat, hcd⟩ := C.fn i hi
  rw [hg] at hg'; cases hg'
  refine PyProof.Rows.callWith_def hdat (wpAny_mono (ha p X (β ++ β1) h1 g1 A tk1 r) (fun vs s2 zz => ?_) fun _ _ e => e) he
  obtain ⟨h2, tk2, e2, β2, as, l2, O2, k1, k2, k3, k4, k5, k6⟩ := zz
  subst e2
  refine ⟨k1.base a o ho, ?_⟩
  have hargs : IsL C (Fb X env (β ++ β1 ++ β2)) [] h2 vs as := ⟨k4.1, fun i v x e e' => is_nown (k4.2 i v x e e') (k5 x (List.mem_of_getElem? e')) []⟩
  refine wpAny_mono (k6 (Fb X env (β ++ β1 ++ β2)) h2 vs a hg k1.base (fun b hb => ?_) hargs A tk2 r) (fun v s3 ⟨h3, tk3, e3, av, q1, q2, q3⟩ => ?_) fun _ _ e => e
  · rcases hb with hb | hb
    · exact k1.xin b hb
    · obtain ⟨x1, _, x2⟩ := k1.new b hb; exact ⟨x1, x2⟩
  · subst e3
    refine ⟨h3, tk3, rfl, ?_⟩
    have post : Post C X env (β ++ β1 ++ β2) p h2 RV Q v h3 := Post.same (k1.keeps q1) (fun b o e _ => q1 b o e) (q2.stable (fun b o _ e => e) (fun b o hb _ => hb) fun _ _ e => by simp at e) q3
    exact (post.trans' g1 k1 k2 k3).trans' H g1 g2 g3

/-- range -/
theorem E_range1 {x : Str} {np pos : Pos} {e : Expr} {Q : AV → List (Str × AV) → List AO → Prop} (hx : x = ("range" : Str)) (hk : env.kindOf x = some .globalImplicit)
    (ha : WE C d env e l Os (fun a l1 O1 => ∃ n : Nat, ∃ k : Int, a = .int k ∧ n = k.toNat ∧ -(2 ^ 60) < k ∧ k < 2 ^ 60 ∧ Q (.rng 0 1 n) l1 O1)) (he : starEach [e] env = [(false, eval e env)] := by rfl)
    (hc : eval (.Call (.Name x np) [e] [] pos) env = (do callWith pos (← eval (.Name x np) env) [] (backTo pos (starEach [e] env)) (backToKw pos (keywordEach [] env))) := by rfl) : WE C d env (.Call (.Name x np) [e] [] pos) l Os Q := by
  subst hx
  refine E_callB (f := .type "range") (by decide +kernel) (by decide +kernel) hk (by decide +kernel) (by decide +kernel) (.inl ⟨_, rfl⟩) (A_cons (fun p => (ha p).mono fun a l1 O1 zz => A_nil fun p vs hl hp => ?_) he) he rfl hc
  obtain ⟨n, k, g1, g2, g3, g4, g5⟩ := zz
  obtain ⟨v, rfl⟩ := len1 hl
  subst g1; subst g2
  refine Wi.prim (x := .rng 0 1 k.toNat) (fun X β h H A tk r Q' hQ' => ?_) g5
  obtain ⟨t, rfl⟩ := is_int (H.pend v _ (hp 0 v _ rfl rfl))
  refine call_range_1 (hQ' _ _ _ (push_get _) (.rng H.freshSize (Heap.get?_push_size _ rfl) (small_one (by decide) (by decide) (by lia  ) (by lia  )) ?_))
  rw [rangeSize_one]; split <;> lia
theorem E_range2 {x : Str} {np pos : Pos} {e1 e2 : Expr} {Q : AV → List (Str × AV) → List AO → Prop} (hx : x = ("range" : Str)) (hk : env.kindOf x = some .globalImplicit)
    (ha : WE C d env e1 l Os (fun a l1 O1 => WE C d env e2 l1 O1 (fun b l2 O2 => ∃ j k : Int, a = .int j ∧ b = .int k ∧ (-(2 ^ 60) < j ∧ j < 2 ^ 60) ∧ (-(2 ^ 60) < k ∧ k < 2 ^ 60) ∧ Q (.rng j 1 (k - j).toNat) l2 O2))) (he : starEach [e1, e2] env = [(false, eval e1 env), (false, eval e2 env)] := by rfl)
    (hc : eval (.Call (.Name x np) [e1, e2] [] pos) env = (do callWith pos (← eval (.Name x np) env) [] (backTo pos (starEach [e1, e2] env)) (backToKw pos (keywordEach [] env))) := by rfl)
    (he2 : starEach [e2] env = [(false, eval e2 env)] := by rfl) : WE C d env (.Call (.Name x np) [e1, e2] [] pos) l Os Q := by
  subst hx
  refine E_callB (f := .type "range") (by decide +kernel) (by decide +kernel) hk (by decide +kernel) (by decide +kernel) (.inl ⟨_, rfl⟩) (A_cons (fun p => (ha p).mono fun a l1 O1 g0 => A_cons (fun p => (g0 p).mono fun b l2 O2 zz => A_nil fun p vs hl hp => ?_) he2) (by rw [he, he2])) (by rw [he, he2]) (by rw [he2]; rfl) hc
  obtain ⟨j, k, g1, g2, g3, g4, g5⟩ := zz
  obtain ⟨v, u, rfl⟩ := len2 hl
  subst g1; subst g2
  refine Wi.prim (x := .rng j 1 (k - j).toNat) (fun X β h H A tk r Q' hQ' => ?_) g5
  obtain ⟨t, rfl⟩ := is_int (H.pend v _ (hp 0 v _ rfl rfl))
  obtain ⟨t', rfl⟩ := is_int (H.pend u _ (hp 1 u _ rfl rfl))
  refine call_range_2 (hQ' _ _ _ (push_get _) (.rng H.freshSize (Heap.get?_push_size _ rfl) (small_one (by lia  ) (by lia  ) (by lia  ) (by lia  )) ?_))
  rw [rangeSize_one]; split <;> lia
theorem E_range3 {x : Str} {np pos : Pos} {e1 e2 e3 : Expr} {Q : AV → List (Str × AV) → List AO → Prop} (hx : x = ("range" : Str)) (hk : env.kindOf x = some .globalImplicit)
    (ha : WE C d env e1 l Os (fun a l1 O1 => WE C d env e2 l1 O1 (fun b l2 O2 => WE C d env e3 l2 O2 (fun c l3 O3 => ∃ j k s : Int, a = .int j ∧ b = .int k ∧ c = .int s ∧ s ≠ 0 ∧ Builtin.Range.small j k s = true ∧ Builtin.divisionGoesByPylong (k - j) s = false ∧ 0 ≤ Builtin.Range.rangeSize j k s ∧ Q (.rng j s (Builtin.Range.rangeSize j k s).toNat) l3 O3))))
    (he : starEach [e1, e2, e3] env = [(false, eval e1 env), (false, eval e2 env), (false, eval e3 env)] := by rfl)
    (hc : eval (.Call (.Name x np) [e1, e2, e3] [] pos) env = (do callWith pos (← eval (.Name x np) env) [] (backTo pos (starEach [e1, e2, e3] env)) (backToKw pos (keywordEach [] env))) := by rfl)
    (he2 : starEach [e2, e3] env = [(false, eval e2 env), (false, eval e3 env)] := by rfl) (he3 : starEach [e3] env = [(false, eval e3 env)] := by rfl) : WE C d env (.Call (.Name x np) [e1, e2, e3] [] pos) l Os Q := by
  subst hx
  refine E_callB (f := .type "range") (by decide +kernel) (by decide +kernel) hk (by decide +kernel) (by decide +kernel) (.inl ⟨_, rfl⟩) (A_cons (fun p => (ha p).mono fun a l1 O1 g0 => A_cons (fun p => (g0 p).mono fun b l2 O2 g0 => A_cons (fun p => (g0 p).mono fun c l3 O3 zz => A_nil fun p vs hl hp => ?_) he3) (by rw [he2, he3])) (by rw [he, he2])) (by rw [he, he2]) (by rw [he2]; rfl) hc
  obtain ⟨j, k, s, g1, g2, g3, g4, g5, g6, g7, g8⟩ := zz
  obtain ⟨v, u, w, rfl⟩ := len3 hl
  subst g1; subst g2; subst g3
  refine Wi.prim (x := .rng j s (Builtin.Range.rangeSize j k s).toNat) (fun X β h H A tk r Q' hQ' => ?_) g8
  obtain ⟨t, rfl⟩ := is_int (H.pend v _ (hp 0 v _ rfl rfl))
  obtain ⟨t', rfl⟩ := is_int (H.pend u _ (hp 1 u _ rfl rfl))
  obtain ⟨t'', rfl⟩ := is_int (H.pend w _ (hp 2 w _ rfl rfl))
  exact call_range_3 g4 (hQ' _ _ _ (push_get _) (.rng H.freshSize (Heap.get?_push_size _ rfl) g5 (by lia  ))) (.inl g6)
end
-- M9
/-- nothing of a frame's own among the items -/
noncomputable def NownO : AO → Prop
  | .lst xs => ∀ x ∈ xs, Nown x
  | .fix xs => ∀ x ∈ xs, Nown x
  | .dct _ => True

theorem OIs.re {C : Cx} {F F' : Addr → Prop} {β β' : List Addr} {h h' : Heap} {a : Addr} {o : AO} (H : OIs C F β h a o) (hn : NownO o) (ha : ∀ o, h.get? a = some o → h'.get? a = some o)
    (hk : ∀ b o, ¬ F b → h.get? b = some o → h'.get? b = some o) (hF : ∀ b o, ¬ F b → h.get? b = some o → ¬ F' b) : OIs C F' β' h' a o := by
  have st : ∀ {v x}, Is C F β h v x → Nown x → Is C F' β' h' v x := fun hi hn => (is_nown hi hn []).stable hk hF fun _ _ e => by simp at e
  cases o with
  | lst xs => obtain ⟨vs, ⟨n, h1⟩, h2, h3⟩ := H; exact ⟨vs, ⟨n, ha _ h1⟩, h2, fun i v x e e' => st (h3 i v x e e') (hn x (List.mem_of_getElem? e'))⟩
  | fix xs => obtain ⟨vs, ⟨ol, h1, hr⟩, h2, h3⟩ := H; exact ⟨vs, ⟨ol, ha _ h1, hr⟩, h2, fun i v x e e' => st (h3 i v x e e') (hn x (List.mem_of_getElem? e'))⟩
  | dct es =>
    obtain ⟨xs, ⟨o, es', ep, ho, hx, hda, he, hi, hn⟩, hks, hl, hes⟩ := H
    refine ⟨xs, ⟨o, es', ep, ha _ ho, hx, hda, he, fun x hx => ?_, hn⟩, fun x hx => ?_, hl, hes⟩
    · obtain ⟨o', items, n, ho', r⟩ := hi x hx
      exact ⟨o', items, n, hk _ o' (hks x hx) ho', r⟩
    · obtain ⟨o', items, n, ho', r⟩ := hi x hx
      exact hF _ o' (hks x hx) ho'

noncomputable def Fo (X : Addr → Prop) (β : List Addr) (a : Addr) : Prop := X a ∨ a ∈ β

inductive FoEnd (C : Cx) (X : Addr → Prop) (β : List Addr) (h : Heap) (Q : AV → List AO → Prop) (v : Value) (h' : Heap) : Prop
  | mk (av : AV) (O' : List AO) : (∀ b o, b ∉ β → h.get? b = some o → h'.get? b = some o) → β.length = O'.length → (∀ (i : Nat) a o, β[i]? = some a → O'[i]? = some o → OIs C (Fo X β) β h' a o) →
      (∀ o ∈ O', NownO o) → Is C (Fo X β) β h' v av → Nown av → Q av O' → FoEnd C X β h Q v h'
/-- what a def does, called with things of the caller's own -/
noncomputable def WFo (C : Cx) (d : Nat) (i : Nat) (args : List AV) (O0 : List AO) (Q : AV → List AO → Prop) : Prop :=
  ∀ (X : Addr → Prop) (β : List Addr) (h : Heap) (vs : List Value) (a : Addr), C.mg (nameAt i) = some (.ref a) → (∀ b o, C.s.heap.get? b = some o → h.get? b = some o) → (∀ a, Fo X β a → C.s.heap.get? a = none ∧ ∃ o, h.get? a = some o) →
    β.Nodup → (∀ b ∈ β, ¬ X b) → β.length = O0.length → (∀ (i : Nat) a o, β[i]? = some a → O0[i]? = some o → OIs C (Fo X β) β h a o) → IsL C (Fo X β) β h vs args →
    Wp C d (call (.ref a) vs) h (FoEnd C X β h Q)

theorem fin_nown {n : Nat} {Os : List AO} {a r : AV} (H : Fin n Os a r) : Nown r := by
  induction H with
  | same h => exact h
  | lst _ _ h => exact .list h
  | dct _ _ => exact .dict _
  | @tup xs ys hl _ ih =>
    refine .tup fun y hy => ?_
    obtain ⟨i, hi⟩ := List.mem_iff_getElem?.mp hy
    have hlt : i < xs.length := by rw [hl]; exact (List.getElem?_eq_some_iff.mp hi).1
    exact ih i xs[i] y (List.getElem?_eq_getElem hlt) hi

section
variable {C : Cx} {d : Nat} {env : Env} {p : List (Value × AV)} {l : List (Str × AV)} {Os : List AO} {X : Addr → Prop} {β : List Addr} {h h' : Heap}

theorem WFo.wf {i : Nat} {args : List AV} {Q : AV → Prop} (H : WFo C d i args [] (fun a _ => Q a)) : WF C d i args Q := fun X h vs a hg hbase hX hvs => by
  have e : ∀ a, Fo X [] a ↔ X a := fun a => ⟨fun hx => hx.elim id fun q => by simp at q, .inl⟩
  have st : ∀ {F F' : Addr → Prop} {h : Heap} {v x}, (∀ a, F a ↔ F' a) → Is C F [] h v x → Is C F' [] h v x := fun hF hi => hi.stable (fun b o _ e => e) (fun b o hb _ hx => hb ((hF b).mpr hx)) fun _ _ e => e
  refine (H X [] h vs a hg hbase (fun a ha => hX a ((e a).mp ha)) (by simp) (by simp) rfl (fun i a o e => by simp at e) ⟨hvs.1, fun i v x e1 e2 => st (fun a => (e a).symm) (hvs.2 i v x e1 e2)⟩).mono fun v h' zz => by
    cases zz with
    | mk av O' h1 h2 h3 h4 h5 h6 h7 => exact ⟨av, fun b o e => h1 b o (by simp) e, st e h5, h7⟩
theorem WFo_le {i d' : Nat} {args : List AV} {O0 : List AO} {Q : AV → List AO → Prop} (H : WFo C d' i args O0 Q) (hd : d' ≤ d) : WFo C d i args O0 Q := fun X β h vs a h1 h2 h3 h4 h5 h6 h7 h8 => (H X β h vs a h1 h2 h3 h4 h5 h6 h7 h8).le hd
theorem WFo_mono {i : Nat} {args : List AV} {O0 : List AO} {Q Q' : AV → List AO → Prop} (H : WFo C d i args O0 Q) (hq : ∀ a o, Q a o → Q' a o) : WFo C d i args O0 Q' := fun X β h vs a h1 h2 h3 h4 h5 h6 h7 h8 =>
  (H X β h vs a h1 h2 h3 h4 h5 h6 h7 h8).mono fun v h' zz => by
    cases zz with
    | mk av O' g1 g2 g3 g4 g5 g6 g7 => exact ⟨av, O', g1, g2, g3, g4, g5, g6, hq _ _ g7⟩

theorem zip_lookup {ns : List Str} {as : List AV} {vs : List Value} {x : Str} {av : AV} (hnd : ns.Nodup) (h1 : as.length = ns.length) (h2 : vs.length = ns.length) (e : (ns.zip as).lookup x = some av) : ∃ (j : Nat) (v : Value), vs[j]? = some v ∧ as[j]? = some av ∧ x ∈ ns ∧ (ns.zip vs).reverse.lookup x = some v := by
  induction ns generalizing as vs with
  | nil => simp at e
  | cons n ns ih =>
    match as, vs, h1, h2 with
    | b :: as, u :: vs, h1, h2 =>
    rw [List.zip_cons_cons, List.lookup_cons] at e
    rw [List.nodup_cons] at hnd
    rw [List.zip_cons_cons, List.reverse_cons, lookup_snoc]
    cases hb : x == n with
    | true =>
      rw [hb] at e; cases e
      have hxn : x = n := by simpa using hb
      refine ⟨0, u, rfl, rfl, by simp [hxn], ?_⟩
      have : ((ns.zip vs).reverse).lookup x = none := by
        rw [List.lookup_eq_none_iff]
        intro q hq
        have hq' := (List.of_mem_zip (a := q.1) (b := q.2) (List.mem_reverse.mp hq)).1
        by_cases hx : x = q.1
        · exact absurd (hxn ▸ hx ▸ hq') hnd.1
        · simpa using hx
      rw [this]; rfl
    | false =>
      rw [hb] at e
      obtain ⟨j, v, g1, g2, g3, g4⟩ := ih hnd.2 (by simpa using h1) (by simpa using h2) e
      exact ⟨j + 1, v, g1, g2, List.mem_cons_of_mem _ g3, by rw [g4]; rfl⟩

/-- a def of plain names, called with things of the caller's own: its body once -/
theorem WFo_intro {i : Nat} {ns : List Str} {args : List AV} {O0 : List AO} {Q : AV → List AO → Prop} (hi : i ∈ usedFns) (hn : ns.length = args.length)
    (hbind : ∀ pm code doc (vs : List Value), vs.length = ns.length → bindArgs (docDef (nameAt i) (paramsAt i) (bodyAt i) (scopeAt i) pm code doc) ⟨vs, []⟩ = pure (ns.zip vs))
    (hloc : ∀ x ∈ ns, (scopeAt i).names.lookup x = some .local) (hnd : ns.Nodup)
    (hcell : ∀ x ∈ (scopeAt i).names, x.2 ≠ .cell) (hco : (scopeAt i).isCoroutine = false) (hgen : (scopeAt i).isGenerator = false) (hk : (scopeAt i).kind = .function)
    (body : ∀ (L a : Addr) (cd : Value), WB C d (envOf (nameAt i) (scopeAt i) L a cd) (bodyAt i) (ns.zip args) O0 (fun f _ Os' => ∃ av r, (f = .ret av ∨ (f = .next ∧ av = .none)) ∧ Fin O0.length Os' av r ∧ (∀ o ∈ Os'.take O0.length, NownO o) ∧ O0.length ≤ Os'.length ∧ Q r (Os'.take O0.length))) : WFo C (d + 1) i args O0 Q := by
  intro X β h vs a hg hbase hX hbn hbX hbl hobj hvs A tk r
  obtain ⟨a', o, pm, code, doc, hg', ho, hdat, hcd⟩ := C.fn i hi
  rw [hg] at hg'; cases hg'
  have hoh := hbase a o ho
  have hlim : h.NoLimit := C.nolimit.keeps hbase
  have hvl : vs.length = ns.length := by rw [hvs.1, hn]
  refine wpAny_call (call_plain_ret (s := (C.at h tk)) (by have := r.dep; lia  ) hoh hdat hlim (hcd.keeps hbase) (hbind pm code doc vs hvl) (fun x hx => hloc x.1 (List.of_mem_zip hx).1) (fun h₁ F => ?_) hco hgen hk hcell)
  -- the frame
  have hsz := get_size h
  have hb0 : C.s.heap.get? h.objs.size = none := by
    cases e : C.s.heap.get? h.objs.size with
    | none => rfl
    | some o => have := hbase _ _ e; rw [hsz] at this; cases this
  have hnF : ¬ Fo X β h.objs.size := fun hx => by obtain ⟨_, o, e⟩ := hX _ hx; rw [hsz] at e; cases e
  have hex : ∃ o, h₁.get? h.objs.size = some o := by obtain ⟨o, _, _, ho, _⟩ := F.ns; exact ⟨o, ho⟩
  generalize hev : envOf (nameAt i) (scopeAt i) h.objs.size a code = env
  have hmine : mine env β = h.objs.size :: β := by subst hev; rfl
  have hlc : env.locals = h.objs.size := by subst hev; rfl
  have hkd : env.scope.kind = .function := by subst hev; exact hk
  have hFF : ∀ b, Fb X env β b ↔ (b = h.objs.size ∨ Fo X β b) := fun b => by
    unfold Fb Fo; rw [hmine, List.mem_cons]; constructor
    · rintro (q | q | q) <;> simp [q]
    · rintro (q | q | q) <;> simp [q]
  have stF : ∀ b o, ¬ Fo X β b → h.get? b = some o → ¬ Fb X env β b := fun b o hb e hx => by
    rcases (hFF b).mp hx with hx | hx
    · rw [hx, hsz] at e; cases e
    · exact hb hx
  have stA : ∀ {v x}, Is C (Fo X β) β h v x → Is C (Fb X env β) β h₁ v x := fun hi => hi.stable (fun b o _ e => F.keep b o e) stF fun _ _ e => e
  have H : Hold C X env (ns.zip args) β O0 [] h₁ := by
    refine ⟨⟨hkd, by subst hev; rfl, by subst hev; rfl⟩, fun b o e => F.keep b o (hbase b o e), fun b hb => ?_, ?_, fun b hb => ?_, ⟨_, hlc ▸ F.ns⟩, fun x c e => by subst hev; simp [envOf] at e, fun x c e => by subst hev; simp [envOf] at e, fun x y c e => by subst hev; simp [envOf] at e, fun x av e => ?_, hbl, fun i a o ha ho => ?_, fun v av hm => (nomatch hm)⟩
    · obtain ⟨h1, o, h2⟩ := hX b (.inl hb); exact ⟨h1, o, F.keep b o h2⟩
    · rw [hmine, List.nodup_cons]
      exact ⟨fun hm => hnF (.inr hm), hbn⟩
    · rw [hmine] at hb
      rcases List.mem_cons.mp hb with rfl | hb
      · exact ⟨hb0, fun hx => hnF (.inl hx), hex⟩
      · obtain ⟨h1, o, h2⟩ := hX b (.inr hb); exact ⟨h1, hbX b hb, o, F.keep b o h2⟩
    · obtain ⟨j, v, g1, g2, g3, g4⟩ := zip_lookup hnd hn.symm hvl e
      exact ⟨v, .inl ⟨by subst hev; exact hloc x g3, _, hlc ▸ F.ns, g4⟩, stA (hvs.2 j v av g1 g2)⟩
    · exact (hobj i a o ha ho).stable (fun o e => F.keep a o e) (fun b o _ e => F.keep b o e) stF fun _ _ e => e
  have R' : Room d (A.deeper env) := ⟨r.hand, by have := r.dep; show A.depth + 1 + d ≤ _; lia  , by have := r.un; show A.units + 3 + 8 * d + 8 ≤ _; lia  ⟩
  have body' := body h.objs.size a code
  rw [hev] at body'
  refine wpAny_mono (body' [] X β h₁ H _ _ R') (fun f s' zz => ?_) fun _ _ e => e
  obtain ⟨h2, tk2, e2, β', af, l', Os', g1, g2, g3, g4, av, rr, g5, g6, g8, g9, g7⟩ := zz
  have hbm : ∀ b ∈ β, b ∈ mine env (β ++ β') := fun b hb => List.mem_cons_of_mem _ (List.mem_append_right _ (List.mem_append_left _ hb))
  have hX' : ∀ b o, ¬ Fb X env (β ++ β') b → h2.get? b = some o → ¬ Fo X β b := fun b o hb _ hx => hx.elim (fun q => hb (.inl q)) fun q => hb (.inr (hbm b q))
  have hnd' : (β ++ β').Nodup := by
    have := g1.nd
    unfold mine at this
    rw [List.nodup_cons, List.nodup_append] at this
    exact this.2.2.1
  have fin : ∀ v, Is C (Fb X env (β ++ β')) (β ++ β') h2 v av → Ends C (FoEnd C X β h Q v) s' := fun v hv =>
    ⟨h2, tk2, e2, rr, Os'.take O0.length, fun b o hb e => g2 b o (F.keep b o e) (fun hm => by rw [hmine] at hm; rcases List.mem_cons.mp hm with q | q; rw [q, hsz] at e; cases e; exact hb q), by rw [List.length_take, hbl, Nat.min_eq_left g9], fun j b o hb ho => by
      have hlt : j < O0.length := by rw [← hbl]; exact (List.getElem?_eq_some_iff.mp hb).1
      refine (g1.objs j b o (get_append j b hb) (by rw [List.getElem?_take_of_lt hlt] at ho; exact ho)).re (g8 o (List.mem_of_getElem? ho)) (fun o e => e) (fun b o _ e => e) hX', g8, fin_is (n := O0.length) g1 hv g6 hX' (fun j b hj hb hx => by
        rcases hx with hx | hx
        · exact (g1.new b (List.mem_cons_of_mem _ (List.mem_append_right _ (List.mem_of_getElem? hb)))).2.1 hx
        · obtain ⟨k, hk'⟩ := List.mem_iff_getElem?.mp hx
          have hkl : k < β.length := (List.getElem?_eq_some_iff.mp hk').1
          have := nodup_get hnd' (get_append k b hk') hb
          lia  ) β, fin_nown g6, g7⟩
  rcases g5 with rfl | ⟨rfl, rfl⟩
  · cases g4 with | ret hi => exact fin _ hi
  · cases g4 with | next => exact fin _ .none

/-- a def of plain names, called: its body once -/
theorem WF_intro {i : Nat} {ns : List Str} {args : List AV} {Q : AV → Prop} (hi : i ∈ usedFns) (hn : ns.length = args.length)
    (hbind : ∀ pm code doc (vs : List Value), vs.length = ns.length → bindArgs (docDef (nameAt i) (paramsAt i) (bodyAt i) (scopeAt i) pm code doc) ⟨vs, []⟩ = pure (ns.zip vs))
    (hloc : ∀ x ∈ ns, (scopeAt i).names.lookup x = some .local) (hnd : ns.Nodup)
    (hcell : ∀ x ∈ (scopeAt i).names, x.2 ≠ .cell) (hco : (scopeAt i).isCoroutine = false) (hgen : (scopeAt i).isGenerator = false) (hk : (scopeAt i).kind = .function)
    (body : ∀ (L a : Addr) (cd : Value), WB C d (envOf (nameAt i) (scopeAt i) L a cd) (bodyAt i) (ns.zip args) [] (fun f _ Os' => ∃ av r, (f = .ret av ∨ (f = .next ∧ av = .none)) ∧ Fin 0 Os' av r ∧ Q r)) : WF C (d + 1) i args Q :=
  (WFo_intro (O0 := []) (Q := fun a _ => Q a) hi hn hbind hloc hnd hcell hco hgen hk fun L a cd => WB_mono (body L a cd) fun f _ Os' h => by
    obtain ⟨av, r, h1, h2, h3⟩ := h
    exact ⟨av, r, h1, h2, (fun o ho => by simp at ho), Nat.zero_le _, h3⟩).wf

theorem Hold.setOwn' {i : Nat} {a : Addr} {o o' : AO} (H : Hold C X env l β Os p h) (ha : β[i]? = some a) (ho : Os[i]? = some o) (hk : ∀ b o, b ≠ a → h.get? b = some o → h'.get? b = some o)
    (ho' : OIs C (Fb X env β) β h' a o') : Hold C X env l β (Os.set i o') p h' := by
  have h0 : a ∈ mine env β := List.mem_cons_of_mem _ (List.mem_append_right _ (List.mem_of_getElem? ha))
  have hL : C.s.heap.get? a = none := (H.new _ h0).1
  have nsK : ∀ m, h.Ns env.locals m → h'.Ns env.locals m := fun m zz => by obtain ⟨o, es, ep, e, r⟩ := zz; exact ⟨o, es, ep, hk _ _ (H.own_ne ha).1.symm e, r⟩
  have clK : ∀ x c, env.cells.lookup x = some c → ∀ u, h.IsCell c u → h'.IsCell c u := fun x c e u ⟨o, ho, r⟩ => ⟨o, hk _ _ (fun q => (H.cell_ne e).2 (q ▸ List.mem_of_getElem? ha)) ho, r⟩
  obtain ⟨m, hm⟩ := H.ns
  have hnb : β.Nodup := by
    have := H.nd
    unfold mine at this
    rw [List.nodup_cons, List.nodup_append] at this
    exact this.2.2.1
  have hob : ∃ ob, h'.get? a = some ob := by
    cases o' with
    | lst xs => obtain ⟨vs, ⟨n, h1⟩, _⟩ := ho'; exact ⟨_, h1⟩
    | fix xs => obtain ⟨vs, ⟨ol, h1, _⟩, _⟩ := ho'; exact ⟨_, h1⟩
    | dct es => obtain ⟨xs, ⟨o, es', ep, h1, _⟩, _⟩ := ho'; exact ⟨_, h1⟩
  refine ⟨H.ok, fun b o e => hk b o (fun q => by rw [q, hL] at e; cases e) (H.base b o e), fun b hb => ?_, H.nd, fun b hb => ?_, ⟨_, nsK m hm⟩, fun y c' e => ?_, H.cown, H.capart, fun y au e => ?_, by rw [List.length_set]; exact H.len, fun j b o₂ hb ho₂ => ?_, fun u au hu => H.rest h0 hk (H.pend u au hu)⟩
  · obtain ⟨h1, o, h2⟩ := H.xin b hb
    exact ⟨h1, o, hk b o (fun q => (H.new _ h0).2.1 (q ▸ hb)) h2⟩
  · obtain ⟨h1, h2, o, h3⟩ := H.new b hb
    by_cases q : b = a
    · exact ⟨h1, h2, q ▸ hob⟩
    · exact ⟨h1, h2, o, hk b o q h3⟩
  · obtain ⟨h1, u, h2⟩ := H.cl y c' e
    exact ⟨h1, u, clK y c' e u h2⟩
  · obtain ⟨u, hu, hi⟩ := H.vars y au e
    refine ⟨u, ?_, H.rest h0 hk hi⟩
    rcases hu with ⟨k, m₂, hm₂, hy⟩ | ⟨k, c', hc', hy⟩
    · exact .inl ⟨k, m₂, nsK m₂ hm₂, hy⟩
    · exact .inr ⟨k, c', hc', clK y c' hc' _ hy⟩
  · by_cases q : j = i
    · subst q
      rw [ha] at hb; cases hb
      have hl : j < Os.length := (List.getElem?_eq_some_iff.mp ho).1
      rw [List.getElem?_set_self hl] at ho₂; cases ho₂
      exact ho'
    · rw [List.getElem?_set_ne (Ne.symm q)] at ho₂
      have hne : b ≠ a := fun e => q (nodup_get hnb (e ▸ hb) ha)
      exact (H.objs j b o₂ hb ho₂).stable (fun o' e => hk b o' hne e) (fun b o hb e => hk b o (fun q => hb (.inr (q ▸ h0))) e) (fun b o hb _ => hb) fun _ _ e => e

/-- a call of a def of the text, whose first argument is a thing of the frame's own -/
theorem E_CallO {func : Expr} {e : Expr} {rest : List Expr} {pos : Pos} {Q : AV → List (Str × AV) → List AO → Prop}
    (hf : WE C d env func l Os (fun f l1 O1 => ∃ i, f = .fn i ∧ WA C d env (e :: rest) pos l1 O1 (fun as l2 O2 => ∃ j o as', as = .own j :: as' ∧ O2[j]? = some o ∧ NownO o ∧ (∀ x ∈ as', Nown x) ∧ WFo C d i (.own 0 :: as') [o] (fun r O' => ∀ o', O' = [o'] → Q r l2 (O2.set j o')))))
    (hc : eval (.Call func (e :: rest) [] pos) env = (do callWith pos (← eval func env) [] (backTo pos (starEach (e :: rest) env)) (backToKw pos (keywordEach [] env))) := by rfl)
    (he : starEach (e :: rest) env = (false, eval e env) :: starEach rest env := by rfl) : WE C d env (.Call func (e :: rest) [] pos) l Os Q := fun p X β h H A tk r => by
  refine Call_ (wpAny_mono (hf p X β h H A tk r) (fun f s1 zz => ?_) fun _ _ e => e) hc
  obtain ⟨h1, tk1, e1, β1, af, l1, O1, g1, g2, g3, g4, i, ei, ha⟩ := zz
  subst e1; subst ei
  cases g4 with
  | fn _ a hi hg =>
  obtain ⟨a', o, pm, code, doc, hg', ho, hdat, hcd⟩ := C.fn i hi
  rw [hg] at hg'; cases hg'
  refine PyProof.Rows.callWith_def hdat (wpAny_mono (ha p X (β ++ β1) h1 g1 A tk1 r) (fun vs s2 zz => ?_) fun _ _ e => e) he
  obtain ⟨h2, tk2, e2, β2, as, l2, O2, k1, k2, k3, k4, j, ob, as', k5, k6, k7, k8, k9⟩ := zz
  subst e2; subst k5
  refine ⟨k1.base a o ho, ?_⟩
  obtain ⟨b, hb, hob⟩ := k1.own k6
  generalize hB : β ++ β1 ++ β2 = B at *
  have hbm : b ∈ mine env B := List.mem_cons_of_mem _ (List.mem_append_right _ (List.mem_of_getElem? hb))
  have hFF : ∀ x, Fo (fun x => Fb X env B x ∧ x ≠ b) [b] x ↔ Fb X env B x := fun x => by
    unfold Fo
    constructor
    · rintro (q | q)
      · exact q.1
      · rw [List.mem_singleton.mp q]; exact .inr hbm
    · intro q
      by_cases e : x = b
      · exact .inr (by simp [e])
      · exact .inl ⟨q, e⟩
  have hargs : IsL C (Fo (fun x => Fb X env B x ∧ x ≠ b) [b]) [b] h2 vs (.own 0 :: as') := ⟨k4.1, fun i v x e e' => by
    cases i with
    | zero =>
      simp only [List.getElem?_cons_zero, Option.some.injEq] at e'
      subst e'
      have := k4.2 0 v (.own j) e rfl
      cases this with
      | own _ b' hb' => rw [hb] at hb'; cases hb'; exact .own 0 b rfl
    | succ i =>
      have hx : as'[i]? = some x := by simpa using e'
      exact (is_nown (k4.2 (i + 1) v x e (by simpa using hx)) (k8 x (List.mem_of_getElem? hx)) [b]).stable (fun _ _ _ e => e) (fun y o hy _ hx => hy ((hFF y).mp hx)) fun _ _ e => e⟩
  refine wpAny_mono (k9 (fun x => Fb X env B x ∧ x ≠ b) [b] h2 vs a hg k1.base (fun y hy => ?_) (by simp) (fun y hy q => q.2 (List.mem_singleton.mp hy)) rfl (fun i a' o' ha' ho' => ?_) hargs A tk2 r) (fun v s3 zz => ?_) fun _ _ e => e
  · rcases (hFF y).mp hy with hy | hy
    · exact k1.xin y hy
    · obtain ⟨x1, _, x2⟩ := k1.new y hy; exact ⟨x1, x2⟩
  · cases i with
    | succ i => simp at ha'
    | zero =>
      simp only [List.getElem?_cons_zero, Option.some.injEq] at ha' ho'
      subst ha'; subst ho'
      exact hob.re k7 (fun _ e => e) (fun _ _ _ e => e) fun y o hy _ hx => hy ((hFF y).mp hx)
  · obtain ⟨h3, tk3, e3, av, O', q1, q2, q3, q4, q5, q6, q7⟩ := zz
    subst e3
    obtain ⟨o', rfl⟩ := len1 q2.symm
    have hk : ∀ y o, y ≠ b → h2.get? y = some o → h3.get? y = some o := fun y o hy e => q1 y o (by simpa using hy) e
    have H3 := k1.setOwn' (o' := o') hb k6 hk ((q3 0 b o' rfl rfl).re (q4 o' (.head _)) (fun _ e => e) (fun _ _ _ e => e) fun y o hy _ hx => hy ((hFF y).mpr hx))
    refine ⟨h3, tk3, rfl, ?_⟩
    have post : Post C X env B p h2 RV Q v h3 := Post.same H3 (fun y o e hy => hk y o (fun q => hy (q ▸ hbm)) e) ((is_nown q5 q6 B).stable (fun _ _ _ e => e) (fun y o hy _ hx => hy ((hFF y).mpr hx)) fun _ _ e => e) (q7 o' rfl)
    subst hB
    exact (post.trans' g1 k1 k2 k3).trans' H g1 g2 g3
end
-- M10
noncomputable def val (B : Nat) : List Nat → Nat
  | [] => 0
  | d :: ds => d + B * val B ds
noncomputable def dgF (B : Nat) : Nat → Nat → List Nat
  | 0, _ => []
  | f + 1, n => if n = 0 then [] else n % B :: dgF B f (n / B)
noncomputable def dg (B n : Nat) : List Nat := dgF B n n

theorem val_append (B : Nat) (xs ys : List Nat) : val B (xs ++ ys) = val B xs + B ^ xs.length * val B ys := by
  induction xs with
  | nil => simp [val]
  | cons x xs ih => simp only [List.cons_append, val, ih, List.length_cons, Nat.pow_succ]; grind
theorem val_lt {B : Nat} (hB : 0 < B) {xs : List Nat} (h : ∀ x ∈ xs, x < B) : val B xs < B ^ xs.length := by
  induction xs with
  | nil => simp [val]
  | cons x xs ih =>
    have h1 := ih fun y hy => h y (List.mem_cons_of_mem _ hy)
    have h2 := h x (List.mem_cons_self ..)
    simp only [val, List.length_cons, Nat.pow_succ]
    have : B * (val B xs + 1) ≤ B * B ^ xs.length := Nat.mul_le_mul_left _ h1
    rw [Nat.mul_add] at this
    rw [Nat.mul_comm (B ^ xs.length)]
    lia
theorem val_zeros (B k : Nat) : val B (List.replicate k 0) = 0 := by
  induction k with
  | zero => rfl
  | succ k ih => simp [List.replicate_succ, val, ih]
theorem val_set {B : Nat} {xs : List Nat} {i x y : Nat} (h : xs[i]? = some y) : val B (xs.set i x) + B ^ i * y = val B xs + B ^ i * x := by
  induction xs generalizing i with
  | nil => simp at h
  | cons z xs ih =>
    cases i with
    | zero => simp only [List.getElem?_cons_zero, Option.some.injEq] at h; subst h; simp only [List.set_cons_zero, val]; grind
    | succ i =>
      have := ih (i := i) (by simpa using h)
      simp only [List.set_cons_succ, val, Nat.pow_succ]
      grind
theorem take_snoc {α : Type} {xs : List α} {i : Nat} {x : α} (h : xs[i]? = some x) : xs.take (i + 1) = xs.take i ++ [x] := by
  obtain ⟨h1, h2⟩ := List.getElem?_eq_some_iff.mp h
  rw [List.take_succ_eq_append_getElem h1, h2]
theorem val_take {B : Nat} {xs : List Nat} {i x : Nat} (h : xs[i]? = some x) : val B (xs.take (i + 1)) = val B (xs.take i) + B ^ i * x := by
  have hl := (List.getElem?_eq_some_iff.mp h).1
  rw [take_snoc h, val_append, List.length_take, Nat.min_eq_left (Nat.le_of_lt hl)]
  simp [val]
theorem val_drop {B : Nat} {xs : List Nat} {i x : Nat} (h : xs[i]? = some x) : val B (xs.drop i) = x + B * val B (xs.drop (i + 1)) := by
  obtain ⟨h1, h2⟩ := List.getElem?_eq_some_iff.mp h
  rw [List.drop_eq_getElem_cons h1, h2]; rfl

theorem dgF_ge {B : Nat} (hB : 2 ≤ B) {f g n : Nat} (h : n ≤ f) (h' : n ≤ g) : dgF B f n = dgF B g n := by
  induction f generalizing g n with
  | zero => have : n = 0 := by lia
            subst this; cases g <;> rfl
  | succ f ih =>
    cases g with
    | zero => have : n = 0 := by lia
              subst this; rfl
    | succ g =>
      simp only [dgF]
      by_cases hn : n = 0
      · rw [if_pos hn, if_pos hn]
      · have : n / B < n := Nat.div_lt_self (by lia  ) hB
        rw [if_neg hn, if_neg hn, ih (g := g) (n := n / B) (by lia  ) (by lia  )]
theorem dg_zero (B : Nat) : dg B 0 = [] := rfl
theorem dg_pos {B n : Nat} (hB : 2 ≤ B) (hn : n ≠ 0) : dg B n = n % B :: dg B (n / B) := by
  unfold dg
  cases n with
  | zero => exact absurd rfl hn
  | succ m =>
    have : (m + 1) / B < m + 1 := Nat.div_lt_self (by lia  ) hB
    rw [dgF, if_neg (by lia  ), dgF_ge hB (f := m) (g := (m + 1) / B) (by lia  ) (Nat.le_refl _)]
theorem val_dg {B : Nat} (hB : 2 ≤ B) (n : Nat) : val B (dg B n) = n := by
  induction n using Nat.strongRecOn with
  | _ n ih =>
    by_cases hn : n = 0
    · subst hn; rfl
    · rw [dg_pos hB hn, val, ih _ (Nat.div_lt_self (by lia  ) hB), Nat.mod_add_div]
theorem dg_lt {B : Nat} (hB : 2 ≤ B) (n : Nat) : ∀ x ∈ dg B n, x < B := by
  induction n using Nat.strongRecOn with
  | _ n ih =>
    by_cases hn : n = 0
    · subst hn; intro x hx; simp [dg_zero] at hx
    · rw [dg_pos hB hn]
      intro x hx
      rcases List.mem_cons.mp hx with rfl | hx
      · exact Nat.mod_lt _ (by lia  )
      · exact ih _ (Nat.div_lt_self (by lia  ) hB) x hx
/-- no nought on top -/
noncomputable def Canon (B : Nat) (xs : List Nat) : Prop := xs.length = 0 ∨ B ^ (xs.length - 1) ≤ val B xs
theorem dg_val {B : Nat} (hB : 2 ≤ B) {xs : List Nat} (h : ∀ x ∈ xs, x < B) (hc : Canon B xs) : dg B (val B xs) = xs := by
  induction xs with
  | nil => rfl
  | cons x xs ih =>
    have hx := h x (List.mem_cons_self ..)
    have hv : val B (x :: xs) = x + B * val B xs := rfl
    have hne : val B (x :: xs) ≠ 0 := by
      rcases hc with hc | hc
      · simp at hc
      · have : 0 < B ^ ((x :: xs).length - 1) := Nat.pow_pos (by lia  )
        lia
    rw [dg_pos hB hne, hv, Nat.add_mul_mod_self_left, Nat.mod_eq_of_lt hx, Nat.add_mul_div_left _ _ (by lia  ), Nat.div_eq_of_lt hx, Nat.zero_add, ih (fun y hy => h y (List.mem_cons_of_mem _ hy)) ?_]
    cases xs with
    | nil => exact .inl rfl
    | cons y ys =>
      right
      rcases hc with hc | hc
      · simp at hc
      · simp only [List.length_cons, Nat.add_sub_cancel, Nat.pow_succ] at hc ⊢
        rw [hv] at hc
        refine Nat.le_of_lt_succ (Nat.lt_of_mul_lt_mul_left (a := B) ?_)
        rw [Nat.mul_comm] at hc
        rw [Nat.mul_succ]; lia
theorem dg_canon {B : Nat} (hB : 2 ≤ B) (n : Nat) : Canon B (dg B n) := by
  induction n using Nat.strongRecOn with
  | _ n ih =>
    by_cases hn : n = 0
    · subst hn; exact .inl rfl
    · right
      rw [val_dg hB, dg_pos hB hn, List.length_cons, Nat.add_sub_cancel]
      have hv := val_dg hB (n / B)
      rcases ih _ (Nat.div_lt_self (by lia  ) hB) with h | h
      · rw [h]; simp; lia
      · rw [hv] at h
        cases hl : (dg B (n / B)).length with
        | zero => simp; lia
        | succ k =>
          rw [hl] at h
          rw [Nat.add_sub_cancel] at h
          rw [Nat.pow_succ]
          exact Nat.le_trans (Nat.mul_le_mul_right _ h) (Nat.div_mul_le_self _ _)
theorem dg_len {B : Nat} (hB : 2 ≤ B) {n k : Nat} (h : n < B ^ k) : (dg B n).length ≤ k := by
  rcases dg_canon hB n with hc | hc
  · lia
  · rw [val_dg hB] at hc
    have := Nat.lt_of_le_of_lt hc h
    have := (Nat.pow_lt_pow_iff_right (by lia   : 1 < B)).mp this
    lia
theorem dg_len_pos {B : Nat} (hB : 2 ≤ B) {n : Nat} (h : n ≠ 0) : 0 < (dg B n).length := by rw [dg_pos hB h]; simp
theorem dg_lt_pow {B : Nat} (hB : 2 ≤ B) (n : Nat) : n < B ^ (dg B n).length := by
  have := val_lt (by lia  ) (dg_lt hB n); rwa [val_dg hB] at this
theorem dg_ge_pow {B : Nat} (hB : 2 ≤ B) {n : Nat} (h : n ≠ 0) : B ^ ((dg B n).length - 1) ≤ n := by
  rcases dg_canon hB n with hc | hc
  · have := dg_len_pos hB h; lia
  · rwa [val_dg hB] at hc
theorem dg_len_mono {B : Nat} (hB : 2 ≤ B) {m n : Nat} (h : m ≤ n) : (dg B m).length ≤ (dg B n).length := dg_len hB (Nat.lt_of_le_of_lt h (dg_lt_pow hB n))

theorem two_le_pow {w : Nat} (hw : 1 ≤ w) : 2 ≤ 2 ^ w := by
  have := Nat.pow_le_pow_right (show 0 < 2 by decide) hw; simpa using this
theorem mask_nat (c w : Nat) : Builtin.bitAnd (c : Int) (1 * 2 ^ ((w : Int)).toNat - 1) = ((c % 2 ^ w : Nat) : Int) := by
  have hc : ((2 : Int) ^ w) = ((2 ^ w : Nat) : Int) := by simp
  have hp : 0 < 2 ^ w := Nat.pow_pos (by decide)
  rw [Int.toNat_natCast, Int.one_mul, hc]
  rw [bitAnd_pp (Int.natCast_nonneg c) (by lia  ), Int.toNat_natCast, show (((2 ^ w : Nat) : Int) - 1).toNat = 2 ^ w - 1 by lia  , Nat.and_two_pow_sub_one_eq_mod]
theorem shr_nat (c w : Nat) : (c : Int).fdiv (2 ^ ((w : Int)).toNat) = ((c / 2 ^ w : Nat) : Int) := by
  rw [Int.toNat_natCast, show ((2 : Int) ^ w) = ((2 ^ w : Nat) : Int) by simp, Int.fdiv_eq_ediv_of_nonneg _ (Int.natCast_nonneg _)]
  exact (Int.natCast_ediv _ _).symm
theorem shl_or_nat {r a w : Nat} (ha : a < 2 ^ w) : Builtin.bitOr ((r : Int) * 2 ^ ((w : Int)).toNat) (a : Int) = ((r * 2 ^ w + a : Nat) : Int) := by
  have hc : ((2 : Int) ^ w) = ((2 ^ w : Nat) : Int) := by simp
  rw [bitOr_and, Int.toNat_natCast, hc, ← Int.natCast_mul, bitAnd_pp (Int.natCast_nonneg _) (Int.natCast_nonneg _), Int.toNat_natCast, Int.toNat_natCast]
  have : r * 2 ^ w &&& a = 0 := by
    apply Nat.eq_of_testBit_eq
    intro i
    rw [Nat.testBit_and, Nat.zero_testBit, Nat.testBit_mul_two_pow]
    by_cases hi : w ≤ i
    · rw [Nat.testBit_lt_two_pow (Nat.lt_of_lt_of_le ha (Nat.pow_le_pow_right (by decide) hi))]; simp
    · simp [hi]
  rw [this]; lia
theorem fdiv_nat (a b : Nat) : (a : Int).fdiv (b : Int) = ((a / b : Nat) : Int) := by
  rw [Int.fdiv_eq_ediv_of_nonneg _ (Int.natCast_nonneg _)]; exact (Int.natCast_ediv _ _).symm
theorem fmod_nat (a b : Nat) : (a : Int).fmod (b : Int) = ((a % b : Nat) : Int) := by
  rw [Int.fmod_eq_emod_of_nonneg _ (Int.natCast_nonneg _)]; exact (Int.natCast_emod _ _).symm

noncomputable def dgs (ds : List Nat) : List AV := ds.map fun d => AV.int (d : Nat)
noncomputable def num (w n : Nat) : AV := .list (dgs (dg (2 ^ w) n))
noncomputable def sg (w : Nat) (z : Int) : AV := .tup [.bool (decide (z < 0)), num w z.natAbs]
theorem dgs_len (ds : List Nat) : (dgs ds).length = ds.length := by simp [dgs]
theorem dgs_get {ds : List Nat} {i d : Nat} (h : ds[i]? = some d) : (dgs ds)[i]? = some (.int d) := by simp [dgs, h]
theorem dgs_pick {ds : List Nat} {i d : Nat} (h : ds[i]? = some d) : pick (dgs ds) (i : Int) = some (.int d) := by
  unfold pick; rw [if_pos (Int.natCast_nonneg _), Int.toNat_natCast]; exact dgs_get h
theorem dgs_nown (ds : List Nat) : ∀ x ∈ dgs ds, Nown x := by
  intro x hx
  obtain ⟨d, _, rfl⟩ := List.mem_map.mp hx
  exact .int _
theorem num_nown (w n : Nat) : Nown (num w n) := .list (dgs_nown _)
theorem sg_nown (w : Nat) (z : Int) : Nown (sg w z) := .tup fun x hx => by
  rcases List.mem_cons.mp hx with rfl | hx
  · exact .bool _
  · rw [List.mem_singleton.mp hx]; exact num_nown _ _
theorem dgs_snoc (ds : List Nat) (d : Nat) : dgs ds ++ [.int d] = dgs (ds ++ [d]) := by simp [dgs]
theorem dgs_set (ds : List Nat) (i d : Nat) : (dgs ds).set i (.int d) = dgs (ds.set i d) := by simp [dgs]
theorem dgs_rep (k : Nat) : List.replicate k (AV.int 0) = dgs (List.replicate k 0) := by simp [dgs]

theorem val_push {B t s : Nat} {fs : List Nat} (h : fs.length = t) : val B (fs ++ [s % B]) + B ^ (t + 1) * (s / B) = val B fs + B ^ t * s := by
  have h1 := Nat.mod_add_div s B
  rw [val_append, h, Nat.pow_succ]
  simp only [val]
  grind
theorem all_snoc {P : Nat → Prop} {fs : List Nat} {x : Nat} (h : ∀ y ∈ fs, P y) (hx : P x) : ∀ y ∈ fs ++ [x], P y := fun y hy => by
  rcases List.mem_append.mp hy with hy | hy
  · exact h y hy
  · rw [List.mem_singleton.mp hy]; exact hx
theorem div_le_one {B s : Nat} (h : s < 2 * B) : s / B ≤ 1 := by
  have := Nat.div_lt_of_lt_mul (m := s) (n := B) (k := 2) (by rw [Nat.mul_comm]; exact h); lia
theorem dgs_num {w n : Nat} {fs : List Nat} (hw : 1 ≤ w) (h : ∀ x ∈ fs, x < 2 ^ w) (hc : Canon (2 ^ w) fs) (hv : val (2 ^ w) fs = n) : AV.list (dgs fs) = num w n := by
  subst hv; unfold num; rw [dg_val (two_le_pow hw) h hc]
-- M11
section
variable {C : Cx} {d : Nat} {env : Env} {l : List (Str × AV)} {Os : List AO}
theorem R_add {x y : Int} {K : AV → Prop} (h : K (.int (x + y))) : BinR .Add (.int x) (.int y) K := BinI.add h
theorem R_sub {x y : Int} {K : AV → Prop} (h : K (.int (x - y))) : BinR .Sub (.int x) (.int y) K := BinI.sub h
theorem R_mul {x y : Int} {K : AV → Prop} (h0 : IntMulOk x y) (h : K (.int (x * y))) : BinR .Mult (.int x) (.int y) K := BinI.mul h0 h
theorem R_div {x y : Int} {K : AV → Prop} (h0 : y ≠ 0 ∧ Builtin.divisionGoesByPylong x y = false) (h : K (.int (x.fdiv y))) : BinR .FloorDiv (.int x) (.int y) K := BinI.div h0.1 h0.2 h
theorem R_mod {x y : Int} {K : AV → Prop} (h0 : y ≠ 0) (h : K (.int (x.fmod y))) : BinR .Mod (.int x) (.int y) K := BinI.mod h0 h
theorem R_shl {x y : Int} {K : AV → Prop} (h0 : 0 ≤ y ∧ y ≤ 1000 ∧ x.natAbs < 2 ^ 64) (h : K (.int (x * 2 ^ y.toNat))) : BinR .LShift (.int x) (.int y) K := BinI.shl h0.1 h0.2.1 h0.2.2 h
theorem R_shr {x y : Int} {K : AV → Prop} (h0 : 0 ≤ y) (h : K (.int (x.fdiv (2 ^ y.toNat)))) : BinR .RShift (.int x) (.int y) K := BinI.shr h0 h
theorem R_and {x y : Int} {K : AV → Prop} (h : K (.int (Builtin.bitAnd x y))) : BinR .BitAnd (.int x) (.int y) K := BinI.and h
theorem R_or {x y : Int} {K : AV → Prop} (h : K (.int (Builtin.bitOr x y))) : BinR .BitOr (.int x) (.int y) K := BinI.or h
theorem R_pow {x y : Int} {K : AV → Prop} (h0 : 0 ≤ y ∧ (Builtin.Int.intBits x : Int) * y ≤ 2 ^ 27) (h : K (.int (x ^ y.toNat))) : BinR .Pow (.int x) (.int y) K := BinI.pow h0.1 h0.2 h
theorem R_eq {x y : Int} {K : AV → Prop} (h : K (.bool (x == y))) : CmpR .Eq (.int x) (.int y) K := CmpI.eq h
theorem R_ne {x y : Int} {K : AV → Prop} (h : K (.bool (x != y))) : CmpR .NotEq (.int x) (.int y) K := CmpI.ne h
theorem R_lt {x y : Int} {K : AV → Prop} (h : K (.bool (decide (x < y)))) : CmpR .Lt (.int x) (.int y) K := CmpI.lt h
theorem R_gt {x y : Int} {K : AV → Prop} (h : K (.bool (decide (y < x)))) : CmpR .Gt (.int x) (.int y) K := CmpI.gt h
theorem R_le {x y : Int} {K : AV → Prop} (h : K (.bool (decide (x ≤ y)))) : CmpR .LtE (.int x) (.int y) K := CmpI.le h
theorem R_ge {x y : Int} {K : AV → Prop} (h : K (.bool (decide (y ≤ x)))) : CmpR .GtE (.int x) (.int y) K := CmpI.ge h
theorem R_eqb {x y : Bool} {K : AV → Prop} (h : K (.bool (x == y))) : CmpR .Eq (.bool x) (.bool y) K := CmpI.eqb h
theorem R_neb {x y : Bool} {K : AV → Prop} (h : K (.bool (x != y))) : CmpR .NotEq (.bool x) (.bool y) K := CmpI.neb h
noncomputable def Nx (C : Cx) (d : Nat) (env : Env) (rest : List Stmt) (Q : AF → List (Str × AV) → List AO → Prop) (f : AF) (l : List (Str × AV)) (O : List AO) : Prop := match f with | .next => WB C d env rest l O Q | f => Q f l O
theorem B_next {st : Stmt} {rest : List Stmt} {Q : AF → List (Str × AV) → List AO → Prop} (hs : WS C d env st l Os (fun f l1 O1 => Nx C d env rest Q f l1 O1)) : WB C d env (st :: rest) l Os Q := B_cons hs
theorem N_next {rest : List Stmt} {Q : AF → List (Str × AV) → List AO → Prop} (h : WB C d env rest l Os Q) : Nx C d env rest Q .next l Os := h
theorem N_ret {rest : List Stmt} {a : AV} {Q : AF → List (Str × AV) → List AO → Prop} (h : Q (.ret a) l Os) : Nx C d env rest Q (.ret a) l Os := h
theorem R_tru {b : Bool} {K : Bool → Prop} (h : K b) : TruR (.bool b) K := h
end

theorem sub_cons {l : List (Str × AV)} {c : List (Str × AV)} {x : Str} {a : AV} (h : l.lookup x = some a) (hs : Sub l c) : Sub l ((x, a) :: c) := fun e he => by
  rcases List.mem_cons.mp he with rfl | he
  · exact h
  · exact hs e he
theorem sub_nil {l : List (Str × AV)} : Sub l [] := fun e he => by simp at he
theorem sub_refl {c : List (Str × AV)} (h : (c.map (·.1)).Nodup) : Sub c c := fun e he => by
  induction c with
  | nil => simp at he
  | cons y c ih =>
    rw [List.map_cons, List.nodup_cons] at h
    rw [List.lookup_cons]
    rcases List.mem_cons.mp he with rfl | he
    · simp
    · have : e.1 ≠ y.1 := fun q => h.1 (q ▸ List.mem_map_of_mem (f := (·.1)) he)
      rw [show (e.1 == y.1) = false by simpa using this]
      exact ih h.2 he

theorem sub_in {l c : List (Str × AV)} {x : Str} {a : AV} (h : Sub l c) (hx : (c.lookup x).isNone = true) : Sub ((x, a) :: l) ((x, a) :: c) := fun e he => by
  rcases List.mem_cons.mp he with rfl | he
  · simp
  · rw [List.lookup_cons]
    have hn : (e.1 == x) = false := by
      cases q : e.1 == x with
      | false => rfl
      | true =>
        exfalso
        have : ∀ c : List (Str × AV), e ∈ c → (c.lookup e.1).isSome = true := by
          intro c
          induction c with
          | nil => intro h; simp at h
          | cons y c ih =>
            intro h
            rw [List.lookup_cons]
            rcases List.mem_cons.mp h with rfl | h
            · simp
            · cases e.1 == y.1 with
              | true => rfl
              | false => exact ih h
        have h1 := this c he
        rw [show e.1 = x by simpa using q, Option.isNone_iff_eq_none.mp hx] at h1
        cases h1
    rw [hn]
    exact h e he

theorem fin_ret {O0 Os O1 : List AO} {a r : AV} {Q : AV → List AO → Prop} (ht : Os.take O0.length = O1) (hf : Fin O0.length Os a r) (hn : ∀ o ∈ O1, NownO o) (hl : O0.length ≤ Os.length) (hq : Q r O1) :
    ∃ av r, (AF.ret a = .ret av ∨ AF.ret a = .next ∧ av = .none) ∧ Fin O0.length Os av r ∧ (∀ o ∈ Os.take O0.length, NownO o) ∧ O0.length ≤ Os.length ∧ Q r (Os.take O0.length) := by
  subst ht; exact ⟨a, r, .inl rfl, hf, hn, hl, hq⟩
theorem fin_same {O0 : List AO} {a : AV} {Q : AV → List AO → Prop} (ha : Nown a) (hn : ∀ o ∈ O0, NownO o) (hq : Q a O0) :
    ∃ av r, (AF.ret a = .ret av ∨ AF.ret a = .next ∧ av = .none) ∧ Fin O0.length O0 av r ∧ (∀ o ∈ O0.take O0.length, NownO o) ∧ O0.length ≤ O0.length ∧ Q r (O0.take O0.length) :=
  fin_ret (List.take_length ..) (.same ha) hn (Nat.le_refl _) hq

section
variable {C : Cx} {d : Nat} {env : Env} {l : List (Str × AV)} {Os : List AO}
/-- while, and what holds when it ends -/
theorem S_WhileJ {t : Expr} {b : List Stmt} {pos : Pos} {Q : AF → List (Str × AV) → List AO → Prop} (I : Nat → List (Str × AV) → List AO → Prop) (J : List (Str × AV) → List AO → Prop) (n₀ : Nat) (h0 : I n₀ l Os)
    (turn : ∀ n l O, I n l O → WT C d env t l O (fun c l1 O1 => (c = true → WB C d env b l1 O1 (fun f l2 O2 => match f with | .next | .cont => ∃ m, m < n ∧ I m l2 O2 | .brk => J l2 O2 | .ret v => Q (.ret v) l2 O2)) ∧ (c = false → J l1 O1)))
    (hJ : ∀ l O, J l O → Q .next l O) : WS C d env (.While t b [] pos) l Os Q :=
  S_While I n₀ h0 fun n l O hI p => (turn n l O hI p).mono fun c l1 O1 ⟨h1, h2⟩ => ⟨fun e => WB_mono (h1 e) fun f l O h => by cases f <;> first | exact h | exact hJ _ _ h, fun e => hJ _ _ (h2 e)⟩

noncomputable def Lp (I : List (Str × AV) → List AO → Prop) (J : List (Str × AV) → List AO → Prop) (Q : AF → List (Str × AV) → List AO → Prop) (f : AF) (l : List (Str × AV)) (O : List AO) : Prop := match f with | .next | .cont => I l O | .brk => J l O | .ret v => Q (.ret v) l O

theorem take_len {α : Type} {xs done rest : List α} {y : α} (e : xs = done ++ y :: rest) : xs[done.length]? = some y := by subst e; simp

/-- for x in range(..), by the count of the turns done -/
theorem S_ForR {x : Str} {px : Pos} {iter : Expr} {b : List Stmt} {pos : Pos} {Q : AF → List (Str × AV) → List AO → Prop} (hx : env.kindOf x = some .local ∨ (env.kindOf x = some .cell ∧ (env.cells.lookup x).isSome = true))
    (hi : WE C d env iter l Os (fun a l1 O1 => ∃ lo c n, a = .rng lo c n ∧ ∃ I : Nat → List (Str × AV) → List AO → Prop, I 0 l1 O1 ∧
      (∀ (t : Nat) (k : Int) l2 O2, t < n → k = lo + t * c → I t l2 O2 → WB C d env b ((x, .int k) :: l2) O2 (Lp (I (t + 1)) (fun l O => Q .next l O) Q)) ∧ (∀ l2 O2, I n l2 O2 → Q .next l2 O2)))
    (hs : ∀ x, foldedSetIterable iter env x = pure x := by intro _; rfl) : WS C d env (.For (.Name x px) iter b [] pos) l Os Q := by
  refine S_For (fun p => (hi p).mono fun a l1 O1 zz => ?_) hs
  obtain ⟨lo, c, n, ha, I, h0, h1, h2⟩ := zz
  subst ha
  refine ⟨_, iters_rng, fun done l O => I done.length l O, h0, fun done y rest l2 O2 e hI => ?_, fun l2 O2 hI => h2 l2 O2 (by simpa using hI)⟩
  have hy := take_len e
  have hlt : done.length < n := by
    have := congrArg List.length e
    simp at this; lia
  rw [List.getElem?_map, List.getElem?_range hlt] at hy
  simp only [Option.map_some, Option.some.injEq] at hy
  subst hy
  refine G_Name hx (WB_mono (h1 _ _ _ _ hlt rfl hI) fun f l O h => ?_)
  cases f <;> first | exact h | (show I _ _ _; rw [List.length_append]; exact h)

/-- for x in a list -/
theorem S_ForL {x : Str} {px : Pos} {iter : Expr} {b : List Stmt} {pos : Pos} {Q : AF → List (Str × AV) → List AO → Prop} (hx : env.kindOf x = some .local ∨ (env.kindOf x = some .cell ∧ (env.cells.lookup x).isSome = true))
    (hi : WE C d env iter l Os (fun a l1 O1 => ∃ xs, a = .list xs ∧ ∃ I : Nat → List (Str × AV) → List AO → Prop, I 0 l1 O1 ∧
      (∀ t y l2 O2, xs[t]? = some y → I t l2 O2 → WB C d env b ((x, y) :: l2) O2 (Lp (I (t + 1)) (fun l O => Q .next l O) Q)) ∧ (∀ l2 O2, I xs.length l2 O2 → Q .next l2 O2)))
    (hs : ∀ x, foldedSetIterable iter env x = pure x := by intro _; rfl) : WS C d env (.For (.Name x px) iter b [] pos) l Os Q := by
  refine S_For (fun p => (hi p).mono fun a l1 O1 zz => ?_) hs
  obtain ⟨xs, ha, I, h0, h1, h2⟩ := zz
  subst ha
  refine ⟨_, iters_list, fun done l O => I done.length l O, h0, fun done y rest l2 O2 e hI => ?_, fun l2 O2 hI => h2 l2 O2 hI⟩
  refine G_Name hx (WB_mono (h1 _ _ _ _ (take_len e) hI) fun f l O h => ?_)
  cases f <;> first | exact h | (show I _ _ _; rw [List.length_append]; exact h)

/-- for i, x in enumerate(a list) -/
theorem S_ForE {i y : Str} {pi py : Pos} {k : Nat} {ps : Pos} {x : Str} {np cp : Pos} {e : Expr} {b : List Stmt} {pos : Pos} {Q : AF → List (Str × AV) → List AO → Prop} (hx : x = ("enumerate" : Str)) (hk : env.kindOf x = some .globalImplicit)
    (hn1 : env.kindOf i = some .local ∨ (env.kindOf i = some .cell ∧ (env.cells.lookup i).isSome = true)) (hn2 : env.kindOf y = some .local ∨ (env.kindOf y = some .cell ∧ (env.cells.lookup y).isSome = true))
    (hi : WE C d env e l Os (fun a l1 O1 => ∃ xs, a = .list xs ∧ ∃ I : Nat → List (Str × AV) → List AO → Prop, I 0 l1 O1 ∧
      (∀ t z l2 O2, xs[t]? = some z → I t l2 O2 → WB C d env b ((y, z) :: (i, .int t) :: l2) O2 (Lp (I (t + 1)) (fun l O => Q .next l O) Q)) ∧ (∀ l2 O2, I xs.length l2 O2 → Q .next l2 O2)))
    (he : starEach [e] env = [(false, eval e env)] := by rfl)
    (hc : eval (.Call (.Name x np) [e] [] cp) env = (do callWith cp (← eval (.Name x np) env) [] (backTo cp (starEach [e] env)) (backToKw cp (keywordEach [] env))) := by rfl)
    (hs : ∀ v, foldedSetIterable (.Call (.Name x np) [e] [] cp) env v = pure v := by intro _; rfl) : WS C d env (.For (.Tuple [.Name i pi, .Name y py] k ps) (.Call (.Name x np) [e] [] cp) b [] pos) l Os Q := by
  refine S_ForEnum hx hk (fun p => (hi p).mono fun a l1 O1 zz => ?_) he hc hs
  obtain ⟨xs, ha, I, h0, h1, h2⟩ := zz
  refine ⟨xs, ha, fun done l O => I done.length l O, h0, fun done z rest l2 O2 e hI => ?_, fun l2 O2 hI => h2 l2 O2 hI⟩
  refine G_Tuple rfl rfl (G_Name hn1 (G_Name hn2 (WB_mono (h1 _ _ _ _ (take_len e) hI) fun f l O h => ?_)))
  cases f <;> first | exact h | (show I _ _ _; rw [List.length_append]; exact h)

theorem L_next {I J : List (Str × AV) → List AO → Prop} {Q : AF → List (Str × AV) → List AO → Prop} (h : I l Os) : Lp I J Q .next l Os := h
theorem L_cont {I J : List (Str × AV) → List AO → Prop} {Q : AF → List (Str × AV) → List AO → Prop} (h : I l Os) : Lp I J Q .cont l Os := h
theorem L_brk {I J : List (Str × AV) → List AO → Prop} {Q : AF → List (Str × AV) → List AO → Prop} (h : J l Os) : Lp I J Q .brk l Os := h
theorem L_ret {a : AV} {I J : List (Str × AV) → List AO → Prop} {Q : AF → List (Str × AV) → List AO → Prop} (h : Q (.ret a) l Os) : Lp I J Q (.ret a) l Os := h

noncomputable def TupR (as : List AV) (K : AV → Prop) : Prop := as.length ≤ 100 ∧ K (.tup as)
theorem E_Tup {elts : List Expr} {k : Nat} {pos : Pos} {Q : AV → List (Str × AV) → List AO → Prop} (ha : WA C d env elts pos l Os (fun as l1 O1 => TupR as fun a => Q a l1 O1)) : WE C d env (.Tuple elts k pos) l Os Q := E_Tuple ha
theorem R_tup {as : List AV} {K : AV → Prop} (h : K (.tup as)) (hl : as.length ≤ 100 := by exact Nat.le_of_ble_eq_true rfl) : TupR as K := ⟨hl, h⟩
noncomputable def LstR (Os : List AO) (as : List AV) (K : AV → List AO → Prop) : Prop := as.length ≤ 100 ∧ K (.own Os.length) (Os ++ [.lst as])
theorem E_Lst {elts : List Expr} {pos : Pos} {Q : AV → List (Str × AV) → List AO → Prop} (ha : WA C d env elts pos l Os (fun as l1 O1 => LstR O1 as fun a O2 => Q a l1 O2)) : WE C d env (.List elts pos) l Os Q := E_List ha
theorem R_lst {as : List AV} {K : AV → List AO → Prop} (h : K (.own Os.length) (Os ++ [.lst as])) (hl : as.length ≤ 100 := by exact Nat.le_of_ble_eq_true rfl) : LstR Os as K := ⟨hl, h⟩
noncomputable def SwpR (names : List Str) (a : AV) (K : List AV → Prop) : Prop := ∃ as, a = .tup as ∧ as.length = names.length ∧ K as
theorem S_Swap {t value : Expr} {names : List Str} {pos : Pos} {Q : AF → List (Str × AV) → List AO → Prop}
    (hs : swapsWithSole [t] value pos.line env = pure false) (hw : swappedStores [t] value env = pure (some names)) (hk : (names.all fun x => decide (env.kindOf x = some .local)) = true)
    (hv : WE C d env value l Os (fun a l1 O1 => SwpR names a fun as => Q .next ((names.zip as) ++ l1) O1)) : WS C d env (.Assign [t] value pos) l Os Q := S_AssignSwap hv hs hw fun x hx => of_decide_eq_true (List.all_eq_true.mp hk x hx)
theorem R_swp {names : List Str} {as : List AV} {K : List AV → Prop} (h : K as) (hl : as.length = names.length := by rfl) : SwpR names (.tup as) K := ⟨as, rfl, hl, h⟩
noncomputable def LenR (Os : List AO) (a : AV) (K : AV → Prop) : Prop := ∃ xs, SeqOf Os a = some xs ∧ xs.length < 2 ^ 20 ∧ K (.int xs.length)
theorem E_Len {x : Str} {np pos : Pos} {e : Expr} {Q : AV → List (Str × AV) → List AO → Prop} (hx : x = ("len" : Str)) (hk : env.kindOf x = some .globalImplicit)
    (ha : WE C d env e l Os (fun a l1 O1 => LenR O1 a fun r => Q r l1 O1)) (he : starEach [e] env = [(false, eval e env)] := by rfl)
    (hc : eval (.Call (.Name x np) [e] [] pos) env = (do callWith pos (← eval (.Name x np) env) [] (backTo pos (starEach [e] env)) (backToKw pos (keywordEach [] env))) := by rfl) : WE C d env (.Call (.Name x np) [e] [] pos) l Os Q := E_len hx hk ha he hc
theorem R_len {a : AV} {xs : List AV} {K : AV → Prop} (hs : SeqOf Os a = some xs) (hl : xs.length < 2 ^ 20) (h : K (.int xs.length)) : LenR Os a K := ⟨xs, hs, hl, h⟩
theorem R_len_dgs {a : AV} {ds : List Nat} {K : AV → Prop} (hs : SeqOf Os a = some (dgs ds)) (hl : ds.length < 2 ^ 20) (h : K (.int ds.length)) : LenR Os a K := ⟨_, hs, by rw [dgs_len]; exact hl, by rw [dgs_len]; exact h⟩
noncomputable def IdxR (Os : List AO) (a i : AV) (K : AV → Prop) : Prop := ∃ xs k x, SeqOf Os a = some xs ∧ i = .int k ∧ (-(2 ^ 62) < k ∧ k < 2 ^ 62) ∧ pick xs k = some x ∧ K x
theorem E_Idx {value slice : Expr} {pos : Pos} {Q : AV → List (Str × AV) → List AO → Prop} (hv : WE C d env value l Os (fun a l1 O1 => WE C d env slice l1 O1 (fun i l2 O2 => IdxR O2 a i fun x => Q x l2 O2)))
    (hsub : ∀ o i, subscripted slice false o i = PySem.operate [o, i] (getItem o i) := by intros; rfl) : WE C d env (.Subscript value slice pos) l Os Q := E_Subscript hv hsub
theorem R_idx {a x : AV} {xs : List AV} {k : Nat} {j : Int} {K : AV → Prop} (hs : SeqOf Os a = some xs) (hj : j = k) (hk : xs[k]? = some x) (hb : k < 2 ^ 60) (h : K x) : IdxR Os a (.int j) K :=
  ⟨xs, j, x, hs, rfl, by lia  , by subst hj; unfold pick; rw [if_pos (Int.natCast_nonneg _), Int.toNat_natCast]; exact hk, h⟩
theorem R_idx_dgs {a : AV} {ds : List Nat} {k v : Nat} {j : Int} {K : AV → Prop} (hs : SeqOf Os a = some (dgs ds)) (hj : j = k) (hk : ds[k]? = some v) (hb : ds.length ≤ 10000) (h : K (.int v)) : IdxR Os a (.int j) K :=
  R_idx hs hj (dgs_get hk) (by have := (List.getElem?_eq_some_iff.mp hk).1; lia  ) h
/-- a small whole number as an index, found by looking -/
theorem R_idx_c {a x : AV} {xs : List AV} {k : Int} {K : AV → Prop} (hs : SeqOf Os a = some xs) (hk : (decide (-(2 ^ 62) < k) && decide (k < 2 ^ 62)) = true) (hx : pick xs k = some x) (h : K x) : IdxR Os a (.int k) K :=
  ⟨xs, k, x, hs, rfl, by simpa using hk, hx, h⟩
noncomputable def AppR (Os : List AO) (a : AV) (K : Nat → Prop) : Prop := ∃ j xs, a = .own j ∧ Os[j]? = some (.lst xs) ∧ K j
noncomputable def App2 (Os : List AO) (j : Nat) (b : AV) (K : List AO → Prop) : Prop := ∃ ys, Os[j]? = some (.lst ys) ∧ ys.length ≤ 10000 ∧ K (Os.set j (.lst (ys ++ [b])))
theorem E_App {o elt : Expr} {apos pos : Pos} {Q : AV → List (Str × AV) → List AO → Prop}
    (hbase : attributeBase o "append" env (eval o env) = eval o env)
    (hfew : ((backTo pos (starEach [elt] env)).all (fun x => !x.1) && (backToKw pos (keywordEach [] env)).all (fun x => x.1.isSome)
      && decide (([elt] : List Expr).length + ([] : List Keyword).length + (if ([] : List Keyword).isEmpty then 0 else 1) < 30)) = true)
    (hline : (apos.endLine == pos.line) = true) (htrees : backTo pos (starEach [elt] env) = [(false, eval elt env)])
    (ho : WE C d env o l Os (fun a l1 O1 => AppR O1 a fun j => WE C d env elt l1 O1 (fun b l2 O2 => App2 O2 j b fun O3 => Q .none l2 O3))) :
    WE C d env (.Call (.Attribute o "append" apos) [elt] [] pos) l Os Q := E_append (fun p => (ho p).mono fun a l1 O1 zz => by obtain ⟨j, xs, h1, h2, h3⟩ := zz; exact ⟨j, xs, h1, h2, h3⟩) hbase hfew hline htrees
theorem R_app {j : Nat} {xs : List AV} {K : Nat → Prop} (h : Os[j]? = some (.lst xs)) (hk : K j) : AppR Os (.own j) K := ⟨j, xs, rfl, h, hk⟩
theorem R_app2 {j : Nat} {ys : List AV} {b : AV} {K : List AO → Prop} (h : Os[j]? = some (.lst ys)) (hl : ys.length ≤ 10000) (hk : K (Os.set j (.lst (ys ++ [b])))) : App2 Os j b K := ⟨ys, h, hl, hk⟩

theorem S_Swap2 {x y : Str} {px py ps : Pos} {k : Nat} {value : Expr} {pos : Pos} {Q : AF → List (Str × AV) → List AO → Prop}
    (hs : swapsWithSole [.Tuple [.Name x px, .Name y py] k ps] value pos.line env = pure false) (hw : swappedStores [.Tuple [.Name x px, .Name y py] k ps] value env = pure (some [x, y]))
    (hx : env.kindOf x = some .local) (hy : env.kindOf y = some .local)
    (hv : WE C d env value l Os (fun a l1 O1 => SwpR [x, y] a fun as => Q .next (([x, y].zip as) ++ l1) O1)) : WS C d env (.Assign [.Tuple [.Name x px, .Name y py] k ps] value pos) l Os Q := S_AssignSwap hv hs hw (by simp [hx, hy])
theorem S_Swap3 {x y z : Str} {px py pz ps : Pos} {k : Nat} {value : Expr} {pos : Pos} {Q : AF → List (Str × AV) → List AO → Prop}
    (hs : swapsWithSole [.Tuple [.Name x px, .Name y py, .Name z pz] k ps] value pos.line env = pure false) (hw : swappedStores [.Tuple [.Name x px, .Name y py, .Name z pz] k ps] value env = pure (some [x, y, z]))
    (hx : env.kindOf x = some .local) (hy : env.kindOf y = some .local) (hz : env.kindOf z = some .local)
    (hv : WE C d env value l Os (fun a l1 O1 => SwpR [x, y, z] a fun as => Q .next (([x, y, z].zip as) ++ l1) O1)) : WS C d env (.Assign [.Tuple [.Name x px, .Name y py, .Name z pz] k ps] value pos) l Os Q := S_AssignSwap hv hs hw (by simp [hx, hy, hz])

/-- what holds between two statements -/
noncomputable def Cut (R : List (Str × AV) → List AO → Prop) (Q : AF → List (Str × AV) → List AO → Prop) (f : AF) (l : List (Str × AV)) (O : List AO) : Prop := match f with | .next => R l O | f => Q f l O
theorem K_next {R : List (Str × AV) → List AO → Prop} {Q : AF → List (Str × AV) → List AO → Prop} (h : R l Os) : Cut R Q .next l Os := h
theorem K_ret {a : AV} {R : List (Str × AV) → List AO → Prop} {Q : AF → List (Str × AV) → List AO → Prop} (h : Q (.ret a) l Os) : Cut R Q (.ret a) l Os := h
theorem B_cut {st : Stmt} {rest : List Stmt} {Q : AF → List (Str × AV) → List AO → Prop} (R : List (Str × AV) → List AO → Prop) (hs : WS C d env st l Os (fun f l1 O1 => Cut R Q f l1 O1)) (hR : ∀ l O, R l O → WB C d env rest l O Q) : WB C d env (st :: rest) l Os Q :=
  B_cons fun p => (hs p).mono fun f l1 O1 h => by cases f <;> first | exact h | exact hR _ _ h

noncomputable def NegR (a : AV) (K : AV → Prop) : Prop := ∃ i, a = .int i ∧ K (.int (-i))
theorem E_Ng {x : Expr} {pos : Pos} {Q : AV → List (Str × AV) → List AO → Prop} (hx : WE C d env x l Os (fun a l1 O1 => NegR a fun r => Q r l1 O1)) : WE C d env (.UnaryOp .USub x pos) l Os Q := E_Neg hx
theorem R_neg {i : Int} {K : AV → Prop} (h : K (.int (-i))) : NegR (.int i) K := ⟨i, rfl, h⟩
noncomputable def RngR1 (a : AV) (K : AV → Prop) : Prop := ∃ n : Nat, ∃ k : Int, a = .int k ∧ n = k.toNat ∧ -(2 ^ 60) < k ∧ k < 2 ^ 60 ∧ K (.rng 0 1 n)
theorem E_Rng1 {x : Str} {np pos : Pos} {e : Expr} {Q : AV → List (Str × AV) → List AO → Prop} (hx : x = ("range" : Str)) (hk : env.kindOf x = some .globalImplicit)
    (ha : WE C d env e l Os (fun a l1 O1 => RngR1 a fun r => Q r l1 O1)) (he : starEach [e] env = [(false, eval e env)] := by rfl)
    (hc : eval (.Call (.Name x np) [e] [] pos) env = (do callWith pos (← eval (.Name x np) env) [] (backTo pos (starEach [e] env)) (backToKw pos (keywordEach [] env))) := by rfl) : WE C d env (.Call (.Name x np) [e] [] pos) l Os Q := E_range1 hx hk ha he hc
theorem R_rng1 {j : Int} {n : Nat} {K : AV → Prop} (hj : j = n) (hb : n ≤ 2 ^ 30) (h : K (.rng 0 1 n)) : RngR1 (.int j) K := ⟨n, j, rfl, by lia  , by lia  , by lia  , h⟩
noncomputable def RngR2 (a b : AV) (K : AV → Prop) : Prop := ∃ j k : Int, a = .int j ∧ b = .int k ∧ (-(2 ^ 60) < j ∧ j < 2 ^ 60) ∧ (-(2 ^ 60) < k ∧ k < 2 ^ 60) ∧ K (.rng j 1 (k - j).toNat)
theorem E_Rng2 {x : Str} {np pos : Pos} {e1 e2 : Expr} {Q : AV → List (Str × AV) → List AO → Prop} (hx : x = ("range" : Str)) (hk : env.kindOf x = some .globalImplicit)
    (ha : WE C d env e1 l Os (fun a l1 O1 => WE C d env e2 l1 O1 (fun b l2 O2 => RngR2 a b fun r => Q r l2 O2))) (he : starEach [e1, e2] env = [(false, eval e1 env), (false, eval e2 env)] := by rfl)
    (hc : eval (.Call (.Name x np) [e1, e2] [] pos) env = (do callWith pos (← eval (.Name x np) env) [] (backTo pos (starEach [e1, e2] env)) (backToKw pos (keywordEach [] env))) := by rfl)
    (he2 : starEach [e2] env = [(false, eval e2 env)] := by rfl) : WE C d env (.Call (.Name x np) [e1, e2] [] pos) l Os Q := E_range2 hx hk ha he hc he2
theorem R_rng2 {a b : Int} {j k : Nat} {K : AV → Prop} (ha : a = j) (hb : b = k) (hj : j ≤ 2 ^ 30) (hk : k ≤ 2 ^ 30) (h : K (.rng j 1 (k - j))) : RngR2 (.int a) (.int b) K :=
  ⟨a, b, rfl, rfl, by lia  , by lia  , by subst ha; subst hb; rw [show ((k : Int) - j).toNat = k - j by lia  ]; exact h⟩
noncomputable def RngR3 (a b c : AV) (K : AV → Prop) : Prop := ∃ j k s : Int, a = .int j ∧ b = .int k ∧ c = .int s ∧ s ≠ 0 ∧ Builtin.Range.small j k s = true ∧ Builtin.divisionGoesByPylong (k - j) s = false ∧ 0 ≤ Builtin.Range.rangeSize j k s ∧ K (.rng j s (Builtin.Range.rangeSize j k s).toNat)
theorem E_Rng3 {x : Str} {np pos : Pos} {e1 e2 e3 : Expr} {Q : AV → List (Str × AV) → List AO → Prop} (hx : x = ("range" : Str)) (hk : env.kindOf x = some .globalImplicit)
    (ha : WE C d env e1 l Os (fun a l1 O1 => WE C d env e2 l1 O1 (fun b l2 O2 => WE C d env e3 l2 O2 (fun c l3 O3 => RngR3 a b c fun r => Q r l3 O3))))
    (he : starEach [e1, e2, e3] env = [(false, eval e1 env), (false, eval e2 env), (false, eval e3 env)] := by rfl)
    (hc : eval (.Call (.Name x np) [e1, e2, e3] [] pos) env = (do callWith pos (← eval (.Name x np) env) [] (backTo pos (starEach [e1, e2, e3] env)) (backToKw pos (keywordEach [] env))) := by rfl)
    (he2 : starEach [e2, e3] env = [(false, eval e2 env), (false, eval e3 env)] := by rfl) (he3 : starEach [e3] env = [(false, eval e3 env)] := by rfl) : WE C d env (.Call (.Name x np) [e1, e2, e3] [] pos) l Os Q := E_range3 hx hk ha he hc he2 he3
theorem R_rng3 {j k s : Int} {K : AV → Prop} (h0 : s ≠ 0) (h1 : Builtin.Range.small j k s = true) (h2 : s.natAbs < 1073741824) (h3 : 0 ≤ Builtin.Range.rangeSize j k s) (h : K (.rng j s (Builtin.Range.rangeSize j k s).toNat)) : RngR3 (.int j) (.int k) (.int s) K :=
  ⟨j, k, s, rfl, rfl, rfl, h0, h1, PyProof.noPylong_small h2, h3, h⟩
theorem R_down {j k s : Int} {n : Nat} {K : AV → Prop} (hj : j = (n : Int) - 1) (hk : k = -1) (hs : s = -1) (hn : n ≤ 2 ^ 30) (h : K (.rng ((n : Int) - 1) (-1) n)) : RngR3 (.int j) (.int k) (.int s) K := by
  subst hj; subst hk; subst hs
  have e : Builtin.Range.rangeSize ((n : Int) - 1) (-1) (-1) = n := by
    unfold Builtin.Range.rangeSize
    rw [if_neg (by decide)]
    split
    · rw [show -(-1 : Int) = 1 by decide, Int.ediv_one]; lia
    · lia
  refine R_rng3 (by decide) ?_ (by decide) (by rw [e]; lia  ) (by rw [e]; exact h)
  unfold Builtin.Range.small
  rw [e]
  simp only [Builtin.Range.rangeFitsLong, Bool.and_eq_true, Bool.or_eq_true, decide_eq_true_eq, beq_iff_eq, show ¬ ((-1 : Int) > 0) by decide, if_false]
  lia
theorem R_div' {x y : Int} {K : AV → Prop} (h0 : y ≠ 0) (h1 : y.natAbs < 1073741824) (h : K (.int (x.fdiv y))) : BinR .FloorDiv (.int x) (.int y) K := R_div ⟨h0, PyProof.noPylong_small h1⟩ h

theorem nall_nil : ∀ y ∈ ([] : List AV), Nown y := fun y h => by simp at h
theorem nall_cons {x : AV} {xs : List AV} (hx : Nown x) (h : ∀ y ∈ xs, Nown y) : ∀ y ∈ x :: xs, Nown y := fun y hy => by
  rcases List.mem_cons.mp hy with rfl | hy
  · exact hx
  · exact h y hy
noncomputable def CalR (C : Cx) (d : Nat) (i : Nat) (as : List AV) (K : AV → Prop) : Prop := (∀ x ∈ as, Nown x) ∧ WF C d i as K
theorem E_Cal {i : Nat} {x : Str} {np pos : Pos} {e : Expr} {rest : List Expr} {Q : AV → List (Str × AV) → List AO → Prop} (hi : i ∈ usedFns) (hx : nameAt i = x) (hk : env.kindOf x = some .globalImplicit)
    (ha : WA C d env (e :: rest) pos l Os (fun as l2 O2 => CalR C d i as fun r => Q r l2 O2)) (h1 : (x == ("__debug__" : Str)) = false := by decide +kernel)
    (hc : eval (.Call (.Name x np) (e :: rest) [] pos) env = (do callWith pos (← eval (.Name x np) env) [] (backTo pos (starEach (e :: rest) env)) (backToKw pos (keywordEach [] env))) := by rfl)
    (he : starEach (e :: rest) env = (false, eval e env) :: starEach rest env := by rfl) : WE C d env (.Call (.Name x np) (e :: rest) [] pos) l Os Q :=
  E_Call (E_fn hi hx hk ⟨i, rfl, ha⟩ h1) hc he
theorem R_cal {i : Nat} {as : List AV} {P K : AV → Prop} (hc : WF C d i as P) (hn : ∀ x ∈ as, Nown x) (hk : ∀ r, P r → K r) : CalR C d i as K := ⟨hn, WF_mono hc hk⟩
noncomputable def CalO (C : Cx) (d : Nat) (i : Nat) (as : List AV) (O2 : List AO) (K : AV → List AO → Prop) : Prop := ∃ j o as', as = .own j :: as' ∧ O2[j]? = some o ∧ NownO o ∧ (∀ x ∈ as', Nown x) ∧ WFo C d i (.own 0 :: as') [o] (fun r O' => ∀ o', O' = [o'] → K r (O2.set j o'))
theorem E_CalO {i : Nat} {x : Str} {np pos : Pos} {e : Expr} {rest : List Expr} {Q : AV → List (Str × AV) → List AO → Prop} (hi : i ∈ usedFns) (hx : nameAt i = x) (hk : env.kindOf x = some .globalImplicit)
    (ha : WA C d env (e :: rest) pos l Os (fun as l2 O2 => CalO C d i as O2 fun r O3 => Q r l2 O3)) (h1 : (x == ("__debug__" : Str)) = false := by decide +kernel)
    (hc : eval (.Call (.Name x np) (e :: rest) [] pos) env = (do callWith pos (← eval (.Name x np) env) [] (backTo pos (starEach (e :: rest) env)) (backToKw pos (keywordEach [] env))) := by rfl)
    (he : starEach (e :: rest) env = (false, eval e env) :: starEach rest env := by rfl) : WE C d env (.Call (.Name x np) (e :: rest) [] pos) l Os Q :=
  E_CallO (E_fn hi hx hk ⟨i, rfl, ha⟩ h1) hc he
theorem set_same {α : Type} {xs : List α} {j : Nat} {x : α} (h : xs[j]? = some x) : xs.set j x = xs := by
  obtain ⟨h1, h2⟩ := List.getElem?_eq_some_iff.mp h
  subst h2; exact List.set_getElem_self h1
/-- what the callee leaves as it was -/
theorem R_calO {i j : Nat} {o : AO} {as' : List AV} {P : AV → Prop} {K : AV → List AO → Prop} (hc : WFo C d i (.own 0 :: as') [o] (fun r O' => P r ∧ O' = [o])) (ho : Os[j]? = some o) (hno : NownO o) (hn : ∀ x ∈ as', Nown x) (hk : ∀ r, P r → K r Os) : CalO C d i (.own j :: as') Os K :=
  ⟨j, o, as', rfl, ho, hno, hn, WFo_mono hc fun r O' ⟨h1, h2⟩ o' e => by rw [h2] at e; cases e; rw [set_same ho]; exact hk r h1⟩

noncomputable def RepR (Os : List AO) (a b : AV) (K : AV → List AO → Prop) : Prop := ∃ j x k, a = .own j ∧ b = .int k ∧ Os[j]? = some (.lst [x]) ∧ 0 ≤ k ∧ k ≤ 10000 ∧ K (.own Os.length) (Os ++ [.lst (List.replicate k.toNat x)])
theorem E_Rep {L Rr : Expr} {pos : Pos} {Q : AV → List (Str × AV) → List AO → Prop} (hl : WE C d env L l Os (fun a l1 O1 => WE C d env Rr l1 O1 (fun b l2 O2 => RepR O2 a b fun r O3 => Q r l2 O3))) : WE C d env (.BinOp L .Mult Rr pos) l Os Q := E_Repeat hl
theorem R_rep {j k : Nat} {x : AV} {n : Int} {K : AV → List AO → Prop} (h : Os[j]? = some (.lst [x])) (hk : n = k) (hb : k ≤ 10000) (hq : K (.own Os.length) (Os ++ [.lst (List.replicate k x)])) : RepR Os (.own j) (.int n) K := by
  subst hk; exact ⟨j, x, k, rfl, rfl, h, Int.natCast_nonneg _, by lia  , hq⟩
noncomputable def SetR (Os : List AO) (c b a : AV) (K : List AO → Prop) : Prop := ∃ j xs k, c = .own j ∧ b = .int k ∧ ListOf Os j = some xs ∧ 0 ≤ k ∧ k < xs.length ∧ k < 2 ^ 62 ∧ K (Os.set j (.fix (xs.set k.toNat a)))
theorem G_Set {o i : Expr} {pos : Pos} {a : AV} {Q : List (Str × AV) → List AO → Prop} (ho : WE C d env o l Os (fun c l1 O1 => WE C d env i l1 O1 (fun b l2 O2 => SetR O2 c b a fun O3 => Q l2 O3))) : WG C d env (.Subscript o i pos) a l Os Q := G_Sub ho
theorem R_set {j k : Nat} {xs : List AV} {n : Int} {a : AV} {K : List AO → Prop} (h : ListOf Os j = some xs) (hk : n = k) (hb : k < xs.length) (hl : xs.length ≤ 10000) (hq : K (Os.set j (.fix (xs.set k a)))) : SetR Os (.own j) (.int n) a K := by
  subst hk; exact ⟨j, xs, k, rfl, rfl, h, Int.natCast_nonneg _, by lia  , by lia  , hq⟩
/-- a list that no more is appended to -/
theorem WB_fix {j : Nat} {xs : List AV} {b : List Stmt} {Q : AF → List (Str × AV) → List AO → Prop} (h : Os[j]? = some (.lst xs)) (H : WB C d env b l (Os.set j (.fix xs)) Q) : WB C d env b l Os Q := fun p X β hp hh => by
  obtain ⟨a, ha, vs, h1, h2⟩ := hh.own h
  exact H p X β hp (hh.setOwn' ha h (fun _ _ _ e => e) ⟨vs, h1.isList, h2⟩)

theorem R_mulS {x y : Int} {K : AV → Prop} (h1 : -(2 ^ 62) < x) (h2 : x < 2 ^ 62) (h : K (.int (x * y))) : BinR .Mult (.int x) (.int y) K := R_mul (IntMulOk.of_left (intBits_le_64 (by lia  ) (by lia  ))) h
end
theorem om_le {n k m : Nat} (h : n ≤ k) (hk : Nat.ble k m = true) : n ≤ m := Nat.le_trans h (Nat.le_of_ble_eq_true hk)
theorem om_lt {n k m : Nat} (h : n ≤ k) (hk : Nat.blt k m = true) : n < m := Nat.lt_of_le_of_lt h (Nat.le_of_ble_eq_true hk)
theorem om_lt' {n k m : Nat} (h : n < k) (hk : Nat.ble k m = true) : n < m := Nat.lt_of_lt_of_le h (Nat.le_of_ble_eq_true hk)
theorem om_cle {n k m : Nat} (h : n ≤ k) (hk : Nat.ble k m = true) : (n : Int) ≤ (m : Nat) := Int.ofNat_le.mpr (om_le h hk)
theorem om_60 {n k : Nat} (h : n ≤ k) (hk : Nat.blt k (2 ^ 60) = true) : (n : Int) < 2 ^ 60 := Int.ofNat_lt.mpr (om_lt h hk)
theorem om_n60 {n : Nat} : -(2 ^ 60) < (n : Int) := Int.lt_of_lt_of_le (by decide) (Int.natCast_nonneg n)
theorem om_ix {t : Nat} : (0 : Int) + (t : Int) * 1 = (t : Nat) := by lia
theorem om_ix2 {j t : Nat} : (j : Int) + (t : Int) * 1 = (j + t : Nat) := by lia
theorem om_pos {n k : Nat} (h : Nat.succ k ≤ n) : 0 < n := Nat.lt_of_lt_of_le (Nat.succ_pos k) h
theorem om_ne {n k : Nat} (h : Nat.succ k ≤ n) : n ≠ 0 := fun q => by subst q; exact Nat.not_succ_le_zero _ h
theorem om_dlt {a b : Nat} (h : decide ((a : Int) < (b : Int)) = true) : a < b := Int.ofNat_lt.mp (of_decide_eq_true h)
theorem om_dnlt {a b : Nat} (h : decide ((a : Int) < (b : Int)) = false) : ¬ a < b := fun q => of_decide_eq_false h (Int.ofNat_lt.mpr q)
theorem om_dle {a b : Nat} (h : decide ((a : Int) ≤ (b : Int)) = true) : a ≤ b := Int.ofNat_le.mp (of_decide_eq_true h)
theorem om_dnle {a b : Nat} (h : decide ((a : Int) ≤ (b : Int)) = false) : ¬ a ≤ b := fun q => of_decide_eq_false h (Int.ofNat_le.mpr q)
theorem om_dp {a : Nat} (h : decide ((0 : Int) < (a : Int)) = true) : 0 < a := om_dlt (a := 0) h
theorem om_dnp {a : Nat} (h : decide ((0 : Int) < (a : Int)) = false) : a = 0 := Nat.eq_zero_of_not_pos (om_dnlt (a := 0) h)
theorem om_add {a b : Nat} : (a : Int) + (b : Int) = (a + b : Nat) := rfl
theorem om_add3 {a b c : Nat} : (a : Int) + ((b : Int) + (c : Int)) = (a + (b + c) : Nat) := rfl
theorem om_suc {a : Nat} : (a : Int) + 1 = (a + 1 : Nat) := rfl
theorem om_62 {n k : Nat} (h : n ≤ k) (hk : Nat.blt k (2 ^ 62) = true) : (n : Int) < 2 ^ 62 := Int.ofNat_lt.mpr (om_lt h hk)
theorem om_n62 {n : Nat} : -(2 ^ 62) < (n : Int) := Int.lt_of_lt_of_le (by decide) (Int.natCast_nonneg n)
-- M11b
section
variable {C : Cx} {d : Nat} {env : Env} {l : List (Str × AV)} {Os : List AO}
theorem G_Tup2 {t1 t2 : Expr} {k : Nat} {pos : Pos} {a1 a2 : AV} {Q : List (Str × AV) → List AO → Prop} (h : WG C d env t1 a1 l Os (fun l1 O1 => WG C d env t2 a2 l1 O1 Q))
    (he : (assignEach [t1, t2] env).map (·.2) = [t1, t2].map fun t => assign t env := by rfl) (hf : (assignEach [t1, t2] env).findIdx? (·.1) = none := by rfl) : WG C d env (.Tuple [t1, t2] k pos) (.tup [a1, a2]) l Os Q := G_Tuple rfl rfl h he hf
theorem G_Tup3 {t1 t2 t3 : Expr} {k : Nat} {pos : Pos} {a1 a2 a3 : AV} {Q : List (Str × AV) → List AO → Prop} (h : WG C d env t1 a1 l Os (fun l1 O1 => WG C d env t2 a2 l1 O1 (fun l2 O2 => WG C d env t3 a3 l2 O2 Q)))
    (he : (assignEach [t1, t2, t3] env).map (·.2) = [t1, t2, t3].map fun t => assign t env := by rfl) (hf : (assignEach [t1, t2, t3] env).findIdx? (·.1) = none := by rfl) : WG C d env (.Tuple [t1, t2, t3] k pos) (.tup [a1, a2, a3]) l Os Q := G_Tuple rfl rfl h he hf
theorem R_sg0 {w : Nat} {z : Int} {K : AV → Prop} (h : K (.bool (decide (z < 0)))) : IdxR Os (sg w z) (.int 0) K := R_idx_c rfl (by decide) rfl h
theorem R_sg1 {w : Nat} {z : Int} {K : AV → Prop} (h : K (num w z.natAbs)) : IdxR Os (sg w z) (.int 1) K := R_idx_c rfl (by decide) rfl h
theorem E_CalV {i : Nat} {x : Str} {np pos : Pos} {e : Expr} {rest : List Expr} {Q : AV → List (Str × AV) → List AO → Prop} (hx : l.lookup x = some (.fn i))
    (ha : WA C d env (e :: rest) pos l Os (fun as l2 O2 => CalR C d i as fun r => Q r l2 O2)) (hp : plainN x = true := by decide +kernel)
    (hc : eval (.Call (.Name x np) (e :: rest) [] pos) env = (do callWith pos (← eval (.Name x np) env) [] (backTo pos (starEach (e :: rest) env)) (backToKw pos (keywordEach [] env))) := by rfl)
    (he : starEach (e :: rest) env = (false, eval e env) :: starEach rest env := by rfl) : WE C d env (.Call (.Name x np) (e :: rest) [] pos) l Os Q :=
  E_Call (E_var hx ⟨i, rfl, ha⟩ hp) hc he
end
theorem dg_one {B k : Nat} (hB : 2 ≤ B) (h : 0 < k) (h' : k < B) : dg B k = [k] := by
  rw [dg_pos hB (by lia  ), Nat.mod_eq_of_lt h', Nat.div_eq_of_lt h', dg_zero]
theorem sgv_eq {w : Nat} (b : Bool) (n : Nat) : AV.tup [.bool (b && decide (0 < n)), num w n] = sg w (if b = true then -(n : Int) else n) := by
  unfold sg
  cases b with
  | true => rw [if_pos rfl, Int.natAbs_neg, Int.natAbs_natCast, Bool.true_and, show decide (-(n : Int) < 0) = decide (0 < n) by rw [decide_eq_decide]; omega]
  | false => rw [if_neg (by decide), Int.natAbs_natCast, Bool.false_and, show decide ((n : Int) < 0) = false by rw [decide_eq_false_iff_not]; lia  ]
section
variable {C : Cx} {d : Nat} {env : Env} {l : List (Str × AV)} {Os : List AO}
noncomputable def notStar (e : Expr) : Bool := !PySem.W.isStarred e
theorem star_cons {e : Expr} {rest : List Expr} {env : Env} (h : notStar e = true) : starEach (e :: rest) env = (false, eval e env) :: starEach rest env := by
  cases e <;> first | rfl | cases h
theorem hc_all {x : Str} {np pos : Pos} {e : Expr} {rest : List Expr} {env : Env} : eval (.Call (.Name x np) (e :: rest) [] pos) env = (do callWith pos (← eval (.Name x np) env) [] (backTo pos (starEach (e :: rest) env)) (backToKw pos (keywordEach [] env))) := by rfl
theorem tree_one {elt : Expr} {env : Env} {pos : Pos} (h : notStar elt = true) : backTo pos (starEach [elt] env) = [(false, eval elt env)] := by
  cases elt <;> first | rfl | cases h
theorem few_one {elt : Expr} {env : Env} {pos : Pos} (h : notStar elt = true) : ((backTo pos (starEach [elt] env)).all (fun x => !x.1) && (backToKw pos (keywordEach [] env)).all (fun x => x.1.isSome)
      && decide (([elt] : List Expr).length + ([] : List Keyword).length + (if ([] : List Keyword).isEmpty then 0 else 1) < 30)) = true := by
  cases elt <;> first | rfl | cases h
theorem A_con {e : Expr} {es : List Expr} {pos : Pos} {Q : List AV → List (Str × AV) → List AO → Prop} (hn : notStar e = true) (he : WE C d env e l Os (fun a l1 O1 => WA C d env es pos l1 O1 (fun as l2 O2 => Q (a :: as) l2 O2))) : WA C d env (e :: es) pos l Os Q := A_cons he (star_cons hn)
theorem E_LenN {np pos : Pos} {e : Expr} {Q : AV → List (Str × AV) → List AO → Prop} (hk : env.kindOf "len" = some .globalImplicit) (hn : notStar e = true) (ha : WE C d env e l Os (fun a l1 O1 => LenR O1 a fun r => Q r l1 O1)) : WE C d env (.Call (.Name "len" np) [e] [] pos) l Os Q := E_Len rfl hk ha (star_cons hn) hc_all
theorem E_Rn1 {np pos : Pos} {e : Expr} {Q : AV → List (Str × AV) → List AO → Prop} (hk : env.kindOf "range" = some .globalImplicit) (hn : notStar e = true) (ha : WE C d env e l Os (fun a l1 O1 => RngR1 a fun r => Q r l1 O1)) : WE C d env (.Call (.Name "range" np) [e] [] pos) l Os Q := E_Rng1 rfl hk ha (star_cons hn) hc_all
theorem E_Rn2 {np pos : Pos} {e1 e2 : Expr} {Q : AV → List (Str × AV) → List AO → Prop} (hk : env.kindOf "range" = some .globalImplicit) (hn : (notStar e1 && notStar e2) = true) (ha : WE C d env e1 l Os (fun a l1 O1 => WE C d env e2 l1 O1 (fun b l2 O2 => RngR2 a b fun r => Q r l2 O2))) : WE C d env (.Call (.Name "range" np) [e1, e2] [] pos) l Os Q :=
  have h := Bool.and_eq_true_iff.mp hn
  E_Rng2 rfl hk ha (by rw [star_cons h.1, star_cons h.2]; rfl) hc_all (star_cons h.2)
theorem E_Rn3 {np pos : Pos} {e1 e2 e3 : Expr} {Q : AV → List (Str × AV) → List AO → Prop} (hk : env.kindOf "range" = some .globalImplicit) (hn : (notStar e1 && notStar e2 && notStar e3) = true) (ha : WE C d env e1 l Os (fun a l1 O1 => WE C d env e2 l1 O1 (fun b l2 O2 => WE C d env e3 l2 O2 (fun c l3 O3 => RngR3 a b c fun r => Q r l3 O3)))) : WE C d env (.Call (.Name "range" np) [e1, e2, e3] [] pos) l Os Q :=
  have h := Bool.and_eq_true_iff.mp hn
  have h' := Bool.and_eq_true_iff.mp h.1
  E_Rng3 rfl hk ha (by rw [star_cons h'.1, star_cons h'.2, star_cons h.2]; rfl) hc_all (by rw [star_cons h'.2, star_cons h.2]; rfl) (star_cons h.2)
theorem E_Apn {o elt : Expr} {apos pos : Pos} {Q : AV → List (Str × AV) → List AO → Prop} (hbase : attributeBase o "append" env (eval o env) = eval o env) (hline : (apos.endLine == pos.line) = true) (hn : notStar elt = true)
    (ho : WE C d env o l Os (fun a l1 O1 => AppR O1 a fun j => WE C d env elt l1 O1 (fun b l2 O2 => App2 O2 j b fun O3 => Q .none l2 O3))) : WE C d env (.Call (.Attribute o "append" apos) [elt] [] pos) l Os Q := E_App hbase (few_one hn) hline (tree_one hn) ho
theorem E_RepL {es : List Expr} {lp : Pos} {Rr : Expr} {pos : Pos} {Q : AV → List (Str × AV) → List AO → Prop} (hl : WE C d env (.List es lp) l Os (fun a l1 O1 => WE C d env Rr l1 O1 (fun b l2 O2 => RepR O2 a b fun r O3 => Q r l2 O3))) : WE C d env (.BinOp (.List es lp) .Mult Rr pos) l Os Q := E_Rep hl
theorem T_Nm {x : Str} {np : Pos} {Q : Bool → List (Str × AV) → List AO → Prop} (he : WE C d env (.Name x np) l Os (fun a l1 O1 => TruR a fun b => Q b l1 O1)) : WT C d env (.Name x np) l Os Q := T_plain he
theorem T_Sb {o i : Expr} {np : Pos} {Q : Bool → List (Str × AV) → List AO → Prop} (he : WE C d env (.Subscript o i np) l Os (fun a l1 O1 => TruR a fun b => Q b l1 O1)) : WT C d env (.Subscript o i np) l Os Q := T_plain he
theorem R_idT {xs : List AV} {k : Int} {x : AV} {K : AV → Prop} (hk : (decide (-(2 ^ 62) < k) && decide (k < 2 ^ 62)) = true) (hx : pick xs k = some x) (h : K x) : IdxR Os (.tup xs) (.int k) K := R_idx_c rfl hk hx h
theorem R_swT {names : List Str} {as : List AV} {K : List AV → Prop} (hl : as.length = names.length) (h : K as) : SwpR names (.tup as) K := ⟨as, rfl, hl, h⟩
theorem sub_rfl {c : List (Str × AV)} (h : c.map (fun e => l.lookup e.1) = c.map (fun e => some e.2)) : Sub l c := fun e he => List.map_inj_left.mp h e he
theorem K_mul {i : Nat} {np pos : Pos} {e : Expr} {rest : List Expr} {Q : AV → List (Str × AV) → List AO → Prop} (hx : l.lookup ("mul" : Str) = some (.fn i)) (hn : notStar e = true) (ha : WA C d env (e :: rest) pos l Os (fun as l2 O2 => CalR C d i as fun r => Q r l2 O2)) : WE C d env (.Call (.Name "mul" np) (e :: rest) [] pos) l Os Q := E_CalV hx ha (by decide +kernel) hc_all (star_cons hn)
theorem K_divrem {i : Nat} {np pos : Pos} {e : Expr} {rest : List Expr} {Q : AV → List (Str × AV) → List AO → Prop} (hx : l.lookup ("divrem" : Str) = some (.fn i)) (hn : notStar e = true) (ha : WA C d env (e :: rest) pos l Os (fun as l2 O2 => CalR C d i as fun r => Q r l2 O2)) : WE C d env (.Call (.Name "divrem" np) (e :: rest) [] pos) l Os Q := E_CalV hx ha (by decide +kernel) hc_all (star_cons hn)
theorem K_5 {np pos : Pos} {e : Expr} {rest : List Expr} {Q : AV → List (Str × AV) → List AO → Prop} (hk : env.kindOf "nat_of" = some .globalImplicit) (hn : notStar e = true) (ha : WA C d env (e :: rest) pos l Os (fun as l2 O2 => CalR C d 5 as fun r => Q r l2 O2)) : WE C d env (.Call (.Name "nat_of" np) (e :: rest) [] pos) l Os Q := E_Cal (by decide +kernel) (by rfl) hk ha (by decide +kernel) hc_all (star_cons hn)
theorem K_6 {np pos : Pos} {e : Expr} {rest : List Expr} {Q : AV → List (Str × AV) → List AO → Prop} (hk : env.kindOf "compare" = some .globalImplicit) (hn : notStar e = true) (ha : WA C d env (e :: rest) pos l Os (fun as l2 O2 => CalR C d 6 as fun r => Q r l2 O2)) : WE C d env (.Call (.Name "compare" np) (e :: rest) [] pos) l Os Q := E_Cal (by decide +kernel) (by rfl) hk ha (by decide +kernel) hc_all (star_cons hn)
theorem K_7 {np pos : Pos} {e : Expr} {rest : List Expr} {Q : AV → List (Str × AV) → List AO → Prop} (hk : env.kindOf "add" = some .globalImplicit) (hn : notStar e = true) (ha : WA C d env (e :: rest) pos l Os (fun as l2 O2 => CalR C d 7 as fun r => Q r l2 O2)) : WE C d env (.Call (.Name "add" np) (e :: rest) [] pos) l Os Q := E_Cal (by decide +kernel) (by rfl) hk ha (by decide +kernel) hc_all (star_cons hn)
theorem K_8 {np pos : Pos} {e : Expr} {rest : List Expr} {Q : AV → List (Str × AV) → List AO → Prop} (hk : env.kindOf "sub" = some .globalImplicit) (hn : notStar e = true) (ha : WA C d env (e :: rest) pos l Os (fun as l2 O2 => CalR C d 8 as fun r => Q r l2 O2)) : WE C d env (.Call (.Name "sub" np) (e :: rest) [] pos) l Os Q := E_Cal (by decide +kernel) (by rfl) hk ha (by decide +kernel) hc_all (star_cons hn)
theorem K_9 {np pos : Pos} {e : Expr} {rest : List Expr} {Q : AV → List (Str × AV) → List AO → Prop} (hk : env.kindOf "divrem_limb" = some .globalImplicit) (hn : notStar e = true) (ha : WA C d env (e :: rest) pos l Os (fun as l2 O2 => CalR C d 9 as fun r => Q r l2 O2)) : WE C d env (.Call (.Name "divrem_limb" np) (e :: rest) [] pos) l Os Q := E_Cal (by decide +kernel) (by rfl) hk ha (by decide +kernel) hc_all (star_cons hn)
theorem K_14 {np pos : Pos} {e : Expr} {rest : List Expr} {Q : AV → List (Str × AV) → List AO → Prop} (hk : env.kindOf "signed" = some .globalImplicit) (hn : notStar e = true) (ha : WA C d env (e :: rest) pos l Os (fun as l2 O2 => CalR C d 14 as fun r => Q r l2 O2)) : WE C d env (.Call (.Name "signed" np) (e :: rest) [] pos) l Os Q := E_Cal (by decide +kernel) (by rfl) hk ha (by decide +kernel) hc_all (star_cons hn)
theorem K_15 {np pos : Pos} {e : Expr} {rest : List Expr} {Q : AV → List (Str × AV) → List AO → Prop} (hk : env.kindOf "s_neg" = some .globalImplicit) (hn : notStar e = true) (ha : WA C d env (e :: rest) pos l Os (fun as l2 O2 => CalR C d 15 as fun r => Q r l2 O2)) : WE C d env (.Call (.Name "s_neg" np) (e :: rest) [] pos) l Os Q := E_Cal (by decide +kernel) (by rfl) hk ha (by decide +kernel) hc_all (star_cons hn)
theorem K_16 {np pos : Pos} {e : Expr} {rest : List Expr} {Q : AV → List (Str × AV) → List AO → Prop} (hk : env.kindOf "s_sign" = some .globalImplicit) (hn : notStar e = true) (ha : WA C d env (e :: rest) pos l Os (fun as l2 O2 => CalR C d 16 as fun r => Q r l2 O2)) : WE C d env (.Call (.Name "s_sign" np) (e :: rest) [] pos) l Os Q := E_Cal (by decide +kernel) (by rfl) hk ha (by decide +kernel) hc_all (star_cons hn)
theorem K_17 {np pos : Pos} {e : Expr} {rest : List Expr} {Q : AV → List (Str × AV) → List AO → Prop} (hk : env.kindOf "s_add" = some .globalImplicit) (hn : notStar e = true) (ha : WA C d env (e :: rest) pos l Os (fun as l2 O2 => CalR C d 17 as fun r => Q r l2 O2)) : WE C d env (.Call (.Name "s_add" np) (e :: rest) [] pos) l Os Q := E_Cal (by decide +kernel) (by rfl) hk ha (by decide +kernel) hc_all (star_cons hn)
theorem K_18 {np pos : Pos} {e : Expr} {rest : List Expr} {Q : AV → List (Str × AV) → List AO → Prop} (hk : env.kindOf "s_sub" = some .globalImplicit) (hn : notStar e = true) (ha : WA C d env (e :: rest) pos l Os (fun as l2 O2 => CalR C d 18 as fun r => Q r l2 O2)) : WE C d env (.Call (.Name "s_sub" np) (e :: rest) [] pos) l Os Q := E_Cal (by decide +kernel) (by rfl) hk ha (by decide +kernel) hc_all (star_cons hn)
theorem K_19 {np pos : Pos} {e : Expr} {rest : List Expr} {Q : AV → List (Str × AV) → List AO → Prop} (hk : env.kindOf "s_mul" = some .globalImplicit) (hn : notStar e = true) (ha : WA C d env (e :: rest) pos l Os (fun as l2 O2 => CalR C d 19 as fun r => Q r l2 O2)) : WE C d env (.Call (.Name "s_mul" np) (e :: rest) [] pos) l Os Q := E_Cal (by decide +kernel) (by rfl) hk ha (by decide +kernel) hc_all (star_cons hn)
theorem K_20 {np pos : Pos} {e : Expr} {rest : List Expr} {Q : AV → List (Str × AV) → List AO → Prop} (hk : env.kindOf "tdiv" = some .globalImplicit) (hn : notStar e = true) (ha : WA C d env (e :: rest) pos l Os (fun as l2 O2 => CalR C d 20 as fun r => Q r l2 O2)) : WE C d env (.Call (.Name "tdiv" np) (e :: rest) [] pos) l Os Q := E_Cal (by decide +kernel) (by rfl) hk ha (by decide +kernel) hc_all (star_cons hn)
theorem K_24 {np pos : Pos} {e : Expr} {rest : List Expr} {Q : AV → List (Str × AV) → List AO → Prop} (hk : env.kindOf "exact" = some .globalImplicit) (hn : notStar e = true) (ha : WA C d env (e :: rest) pos l Os (fun as l2 O2 => CalR C d 24 as fun r => Q r l2 O2)) : WE C d env (.Call (.Name "exact" np) (e :: rest) [] pos) l Os Q := E_Cal (by decide +kernel) (by rfl) hk ha (by decide +kernel) hc_all (star_cons hn)
theorem K_26 {np pos : Pos} {e : Expr} {rest : List Expr} {Q : AV → List (Str × AV) → List AO → Prop} (hk : env.kindOf "cleared" = some .globalImplicit) (hn : notStar e = true) (ha : WA C d env (e :: rest) pos l Os (fun as l2 O2 => CalR C d 26 as fun r => Q r l2 O2)) : WE C d env (.Call (.Name "cleared" np) (e :: rest) [] pos) l Os Q := E_Cal (by decide +kernel) (by rfl) hk ha (by decide +kernel) hc_all (star_cons hn)
theorem K_27 {np pos : Pos} {e : Expr} {rest : List Expr} {Q : AV → List (Str × AV) → List AO → Prop} (hk : env.kindOf "steps_down" = some .globalImplicit) (hn : notStar e = true) (ha : WA C d env (e :: rest) pos l Os (fun as l2 O2 => CalR C d 27 as fun r => Q r l2 O2)) : WE C d env (.Call (.Name "steps_down" np) (e :: rest) [] pos) l Os Q := E_Cal (by decide +kernel) (by rfl) hk ha (by decide +kernel) hc_all (star_cons hn)
theorem K_28 {np pos : Pos} {e : Expr} {rest : List Expr} {Q : AV → List (Str × AV) → List AO → Prop} (hk : env.kindOf "det_bareiss" = some .globalImplicit) (hn : notStar e = true) (ha : WA C d env (e :: rest) pos l Os (fun as l2 O2 => CalR C d 28 as fun r => Q r l2 O2)) : WE C d env (.Call (.Name "det_bareiss" np) (e :: rest) [] pos) l Os Q := E_Cal (by decide +kernel) (by rfl) hk ha (by decide +kernel) hc_all (star_cons hn)
theorem K_30 {np pos : Pos} {e : Expr} {rest : List Expr} {Q : AV → List (Str × AV) → List AO → Prop} (hk : env.kindOf "sieve" = some .globalImplicit) (hn : notStar e = true) (ha : WA C d env (e :: rest) pos l Os (fun as l2 O2 => CalR C d 30 as fun r => Q r l2 O2)) : WE C d env (.Call (.Name "sieve" np) (e :: rest) [] pos) l Os Q := E_Cal (by decide +kernel) (by rfl) hk ha (by decide +kernel) hc_all (star_cons hn)
theorem K_31 {np pos : Pos} {e : Expr} {rest : List Expr} {Q : AV → List (Str × AV) → List AO → Prop} (hk : env.kindOf "need_count" = some .globalImplicit) (hn : notStar e = true) (ha : WA C d env (e :: rest) pos l Os (fun as l2 O2 => CalR C d 31 as fun r => Q r l2 O2)) : WE C d env (.Call (.Name "need_count" np) (e :: rest) [] pos) l Os Q := E_Cal (by decide +kernel) (by rfl) hk ha (by decide +kernel) hc_all (star_cons hn)
theorem K_32 {np pos : Pos} {e : Expr} {rest : List Expr} {Q : AV → List (Str × AV) → List AO → Prop} (hk : env.kindOf "power_of_count" = some .globalImplicit) (hn : notStar e = true) (ha : WA C d env (e :: rest) pos l Os (fun as l2 O2 => CalR C d 32 as fun r => Q r l2 O2)) : WE C d env (.Call (.Name "power_of_count" np) (e :: rest) [] pos) l Os Q := E_Cal (by decide +kernel) (by rfl) hk ha (by decide +kernel) hc_all (star_cons hn)
theorem K_34 {np pos : Pos} {e : Expr} {rest : List Expr} {Q : AV → List (Str × AV) → List AO → Prop} (hk : env.kindOf "factorial_exponent" = some .globalImplicit) (hn : notStar e = true) (ha : WA C d env (e :: rest) pos l Os (fun as l2 O2 => CalR C d 34 as fun r => Q r l2 O2)) : WE C d env (.Call (.Name "factorial_exponent" np) (e :: rest) [] pos) l Os Q := E_Cal (by decide +kernel) (by rfl) hk ha (by decide +kernel) hc_all (star_cons hn)
theorem K_35 {np pos : Pos} {e : Expr} {rest : List Expr} {Q : AV → List (Str × AV) → List AO → Prop} (hk : env.kindOf "binomial" = some .globalImplicit) (hn : notStar e = true) (ha : WA C d env (e :: rest) pos l Os (fun as l2 O2 => CalR C d 35 as fun r => Q r l2 O2)) : WE C d env (.Call (.Name "binomial" np) (e :: rest) [] pos) l Os Q := E_Cal (by decide +kernel) (by rfl) hk ha (by decide +kernel) hc_all (star_cons hn)
theorem K_37 {np pos : Pos} {e : Expr} {rest : List Expr} {Q : AV → List (Str × AV) → List AO → Prop} (hk : env.kindOf "mul_school" = some .globalImplicit) (hn : notStar e = true) (ha : WA C d env (e :: rest) pos l Os (fun as l2 O2 => CalR C d 37 as fun r => Q r l2 O2)) : WE C d env (.Call (.Name "mul_school" np) (e :: rest) [] pos) l Os Q := E_Cal (by decide +kernel) (by rfl) hk ha (by decide +kernel) hc_all (star_cons hn)
theorem K_38 {np pos : Pos} {e : Expr} {rest : List Expr} {Q : AV → List (Str × AV) → List AO → Prop} (hk : env.kindOf "divrem_small" = some .globalImplicit) (hn : notStar e = true) (ha : WA C d env (e :: rest) pos l Os (fun as l2 O2 => CalR C d 38 as fun r => Q r l2 O2)) : WE C d env (.Call (.Name "divrem_small" np) (e :: rest) [] pos) l Os Q := E_Cal (by decide +kernel) (by rfl) hk ha (by decide +kernel) hc_all (star_cons hn)
theorem K_43 {np pos : Pos} {e : Expr} {rest : List Expr} {Q : AV → List (Str × AV) → List AO → Prop} (hk : env.kindOf "divrem_school" = some .globalImplicit) (hn : notStar e = true) (ha : WA C d env (e :: rest) pos l Os (fun as l2 O2 => CalR C d 43 as fun r => Q r l2 O2)) : WE C d env (.Call (.Name "divrem_school" np) (e :: rest) [] pos) l Os Q := E_Cal (by decide +kernel) (by rfl) hk ha (by decide +kernel) hc_all (star_cons hn)
theorem K_46 {np pos : Pos} {e : Expr} {rest : List Expr} {Q : AV → List (Str × AV) → List AO → Prop} (hk : env.kindOf "_law_limbs" = some .globalImplicit) (hn : notStar e = true) (ha : WA C d env (e :: rest) pos l Os (fun as l2 O2 => CalR C d 46 as fun r => Q r l2 O2)) : WE C d env (.Call (.Name "_law_limbs" np) (e :: rest) [] pos) l Os Q := E_Cal (by decide +kernel) (by rfl) hk ha (by decide +kernel) hc_all (star_cons hn)
theorem K_47 {np pos : Pos} {e : Expr} {rest : List Expr} {Q : AV → List (Str × AV) → List AO → Prop} (hk : env.kindOf "_law_later" = some .globalImplicit) (hn : notStar e = true) (ha : WA C d env (e :: rest) pos l Os (fun as l2 O2 => CalR C d 47 as fun r => Q r l2 O2)) : WE C d env (.Call (.Name "_law_later" np) (e :: rest) [] pos) l Os Q := E_Cal (by decide +kernel) (by rfl) hk ha (by decide +kernel) hc_all (star_cons hn)
theorem K_48 {np pos : Pos} {e : Expr} {rest : List Expr} {Q : AV → List (Str × AV) → List AO → Prop} (hk : env.kindOf "_law_alone" = some .globalImplicit) (hn : notStar e = true) (ha : WA C d env (e :: rest) pos l Os (fun as l2 O2 => CalR C d 48 as fun r => Q r l2 O2)) : WE C d env (.Call (.Name "_law_alone" np) (e :: rest) [] pos) l Os Q := E_Cal (by decide +kernel) (by rfl) hk ha (by decide +kernel) hc_all (star_cons hn)
theorem K_4 {np pos : Pos} {e : Expr} {rest : List Expr} {Q : AV → List (Str × AV) → List AO → Prop} (hk : env.kindOf "normal" = some .globalImplicit) (hn : notStar e = true) (ha : WA C d env (e :: rest) pos l Os (fun as l2 O2 => CalO C d 4 as O2 fun r O3 => Q r l2 O3)) : WE C d env (.Call (.Name "normal" np) (e :: rest) [] pos) l Os Q := E_CalO (by decide +kernel) (by rfl) hk ha (by decide +kernel) hc_all (star_cons hn)
theorem K_25 {np pos : Pos} {e : Expr} {rest : List Expr} {Q : AV → List (Str × AV) → List AO → Prop} (hk : env.kindOf "pivot_row" = some .globalImplicit) (hn : notStar e = true) (ha : WA C d env (e :: rest) pos l Os (fun as l2 O2 => CalO C d 25 as O2 fun r O3 => Q r l2 O3)) : WE C d env (.Call (.Name "pivot_row" np) (e :: rest) [] pos) l Os Q := E_CalO (by decide +kernel) (by rfl) hk ha (by decide +kernel) hc_all (star_cons hn)
theorem K_45 {np pos : Pos} {e : Expr} {rest : List Expr} {Q : AV → List (Str × AV) → List AO → Prop} (hk : env.kindOf "_law_stepped" = some .globalImplicit) (hn : notStar e = true) (ha : WA C d env (e :: rest) pos l Os (fun as l2 O2 => CalO C d 45 as O2 fun r O3 => Q r l2 O3)) : WE C d env (.Call (.Name "_law_stepped" np) (e :: rest) [] pos) l Os Q := E_CalO (by decide +kernel) (by rfl) hk ha (by decide +kernel) hc_all (star_cons hn)
end
section
variable {C : Cx} {d : Nat} {env : Env} {l : List (Str × AV)} {Os : List AO} {α : Type} {a b c : Prop}
/-- K holds wherever P does -/
noncomputable def Kon (K P : α → List (Str × AV) → List AO → Prop) : Prop := ∀ f l O, P f l O → K f l O
theorem Kgo {K P : α → List (Str × AV) → List AO → Prop} {f : α} (h : Kon K P) (hp : P f l Os) : K f l Os := h f l Os hp
theorem BK {ss : List Stmt} {P : AF → List (Str × AV) → List AO → Prop} (h : ∀ K, Kon K P → WB C d env ss l Os K) : WB C d env ss l Os P := h P fun _ _ _ x => x
theorem SK {st : Stmt} {P : AF → List (Str × AV) → List AO → Prop} (h : ∀ K, Kon K P → WS C d env st l Os K) : WS C d env st l Os P := h P fun _ _ _ x => x
theorem EK {e : Expr} {P : AV → List (Str × AV) → List AO → Prop} (h : ∀ K, Kon K P → WE C d env e l Os K) : WE C d env e l Os P := h P fun _ _ _ x => x
theorem BK3 {ss : List Stmt} {P : AF → List (Str × AV) → List AO → Prop} (h : ∀ K, Kon K P → a → b → c → WB C d env ss l Os K) : a → b → c → WB C d env ss l Os P := h P fun _ _ _ x => x
theorem BK2 {ss : List Stmt} {P : AF → List (Str × AV) → List AO → Prop} (h : ∀ K, Kon K P → a → b → WB C d env ss l Os K) : a → b → WB C d env ss l Os P := h P fun _ _ _ x => x
theorem TK1 {e : Expr} {P : Bool → List (Str × AV) → List AO → Prop} (h : ∀ K, Kon K P → a → WT C d env e l Os K) : a → WT C d env e l Os P := h P fun _ _ _ x => x
end
section
variable {n k c m t e v : Nat}
theorem om_tr (h1 : n ≤ k) (h2 : k ≤ c) (hc : Nat.ble c m = true) : n ≤ m := om_le (Nat.le_trans h1 h2) hc
theorem om_etr (h1 : n = k) (h2 : k ≤ c) (hc : Nat.ble c m = true) : n ≤ m := om_le (h1 ▸ h2) hc
theorem om_ttr (h1 : n < k) (h2 : k ≤ c) (hc : Nat.ble c m = true) : n ≤ m := om_le (Nat.le_trans (Nat.le_of_lt h1) h2) hc
theorem om_tlt (h1 : n < k) (h2 : k ≤ c) (hc : Nat.ble c m = true) : n < m := Nat.lt_of_lt_of_le h1 (om_le h2 hc)
theorem om_trlt (h1 : n ≤ k) (h2 : k ≤ c) (hc : Nat.blt c m = true) : n < m := om_lt (Nat.le_trans h1 h2) hc
theorem om_etlt (h1 : n = k) (h2 : k ≤ c) (hc : Nat.blt c m = true) : n < m := om_lt (h1 ▸ h2) hc
theorem om_elt (h1 : e = k) (h2 : t < k) : t < e := h1 ▸ h2
theorem om_elt2 (h1 : k = e) (h2 : t < k) : t < e := h1 ▸ h2
theorem om_lle (h1 : t < k) (h2 : k ≤ e) : t < e := Nat.lt_of_lt_of_le h1 h2
theorem om_ge (h : k ≤ n) (hk : Nat.ble m k = true) : m ≤ n := Nat.le_trans (Nat.le_of_ble_eq_true hk) h
theorem om_gt (h : k ≤ n) (hk : Nat.blt m k = true) : m < n := Nat.le_trans (Nat.le_of_ble_eq_true hk) h
theorem om_01 : (0 : Int) + (t : Int) * 1 = (t : Int) := by lia
theorem om_s1 : t + 1 - 1 = t := rfl
theorem om_nt (h : t < n) : n - t = n - (t + 1) + 1 := (Nat.succ_pred_eq_of_pos (Nat.sub_pos_of_lt h)).symm
theorem om_nt2 (h : t < n - v) : n - (v + t) = n - (v + (t + 1)) + 1 := om_nt (Nat.add_lt_of_lt_sub' h)
theorem om_p1 : 1 ≤ t + 1 := Nat.succ_le_succ (Nat.zero_le _)
theorem om_al (h : v < k) (hk : Nat.ble (c + k) (m + 1) = true) : c + v ≤ m := Nat.le_of_lt_succ (Nat.lt_of_lt_of_le (Nat.add_lt_add_left h c) (Nat.le_of_ble_eq_true hk))
theorem om_ag (hk : Nat.ble m c = true) : m ≤ c + v := Nat.le_trans (Nat.le_of_ble_eq_true hk) (Nat.le_add_right ..)
theorem om_min (h : n ≤ c) (hc : Nat.ble c m = true) : min t n ≤ m := Nat.le_trans (Nat.min_le_right ..) (om_le h hc)
theorem om_mine (h1 : n = k) (h : k ≤ c) (hc : Nat.ble c m = true) : min t n ≤ m := Nat.le_trans (Nat.min_le_right ..) (om_etr h1 h hc)
theorem om_sh (h : n ≤ c) (hc : Nat.ble c 1000 = true) : 0 ≤ (n : Int) ∧ (n : Int) ≤ 1000 ∧ Int.natAbs 1 < 2 ^ 64 := ⟨Int.natCast_nonneg _, Int.ofNat_le.mpr (om_le h hc), by decide⟩
theorem om_sx (h : t < n) : n = n - t - 1 + t + 1 := by omega
theorem om_ps (h : n ≠ 0) : n = n - 1 + 1 := (Nat.succ_pred_eq_of_pos (Nat.pos_of_ne_zero h)).symm
end
/-- the tries of a walk, each a lemma by name and its arguments by letter -/
def alts (s : String) : Lean.MacroM (Array (Lean.TSyntax `Lean.Parser.Tactic.tacticSeq)) := do
  let r ← `(by with_unfolding_all rfl)
  let i ← `(Or.inl $r)
  let n ← `(Nat.le_of_ble_eq_true $r)
  let t ← `(by intros; with_unfolding_all rfl)
  let z ← `(by with_unfolding_all simp)
  let a ← `(by assumption)
  let d ← `(by decide)
  let u ← `(_)
  let h ← `(?_)
  (s.splitOn " ").toArray.mapM fun w => do
    let (x, as) := match w.splitOn ":" with
      | [x, as] => (x, as)
      | _ => (w, "")
    let as := as.toList.toArray.map fun c => match c with
      | 'r' => r
      | 'i' => i
      | 'n' => n
      | 't' => t
      | 's' => z
      | 'a' => a
      | 'd' => d
      | 'u' => u
      | _ => h
    `(tacticSeq| refine $(Lean.mkIdent x.toName) $as*)
section Walker
local macro_rules | `(tactic| walk_at "call") => do
  let k ← alts "K_mul:rr_ K_divrem:rr_ K_5:rr_ K_6:rr_ K_7:rr_ K_8:rr_ K_9:rr_ K_14:rr_ K_15:rr_ K_16:rr_ K_17:rr_ K_18:rr_ K_19:rr_ K_20:rr_ K_24:rr_ K_26:rr_ K_27:rr_ K_28:rr_ K_30:rr_ K_31:rr_ K_32:rr_ K_34:rr_ K_35:rr_ K_37:rr_ K_38:rr_ K_43:rr_ K_46:rr_ K_47:rr_ K_48:rr_ K_4:rr_ K_25:rr_ K_45:rr_"
  `(tactic| with_reducible first $[| $k]*)
local macro_rules | `(tactic| walk_at "e") => do
  let a ← alts "E_var:r_ E_int:_ E_bool:_ E_RepL:_ E_BinOp:_ E_Compare:_r E_And:_ E_Ng:_ E_Not:_ E_IfExp:_ E_SubSlice:_ E_Slice:_ E_Idx:_t E_Tup:_ E_Lst:_ E_LenN:rr_ E_Rn1:rr_ E_Rn2:rr_ E_Rn3:rr_ E_Apn:rrr_"
  `(tactic| first | (with_reducible first $[| $a]*) | ((with_reducible show WE _ _ _ (Expr.Call (Expr.Name _ _) (_ :: _) [] _) _ _ _); walk_at "call"))
local macro_rules | `(tactic| walk_at "b") => do
  let b ← alts "N_next:_ B_next:_ A_con:r_ A_nil:_ K_next:_ L_next:_ G_Name:i_ P_none:_ P_some:_ R_idT:rr_ R_sg0:_ R_sg1:_ B_nil:_ G_Tup2:_rr G_Tup3:_rr G_Set:_ R_add:_ R_sub:_ R_and:_ R_or:_ R_eq:_ R_ne:_ R_lt:_ R_gt:_ R_le:_ R_ge:_ R_eqb:_ R_neb:_ R_tru:_ R_tup:_n R_lst:_n R_swT:r_ R_app:r_ R_neg:_ K_ret:_ L_ret:_ L_brk:_ L_cont:_ N_ret:_ Kgo:a_"
  `(tactic| first | (with_reducible first $[| $b]*) | ((with_reducible show WB _ _ _ (bodyAt _) _ _ _); refine B_next ?_) | ((with_reducible show WB _ _ _ (List.drop _ (bodyAt _)) _ _ _); refine B_next ?_))
local macro_rules | `(tactic| walk_at "st") => do
  let a ← alts "S_Assign:_rrr S_If:_ S_Return:_ S_Expr:_rr S_Swap2:rrrr_ S_Swap3:rrrrr_ S_Aug:rrs_"
  `(tactic| with_reducible first $[| $a]*)
local macro_rules | `(tactic| walk_at "t") => do
  let a ← alts "T_Compare:_r T_Not:_ T_And:_ T_Nm:_ T_Sb:_"
  `(tactic| with_reducible first $[| $a]*)
local macro_rules | `(tactic| walk_at "s") => `(tactic| first | ((with_reducible show WE _ _ _ _ _ _ _); walk_at "e") | ((with_reducible show WS _ _ _ _ _ _ _); walk_at "st") | ((with_reducible show WT _ _ _ _ _ _ _); walk_at "t") | walk_at "b")
local macro_rules | `(tactic| walk_at "go") => `(tactic| repeat (walk_at "s"))
local macro_rules | `(tactic| walk_at "sub") => `(tactic| first | exact sub_nil | exact sub_rfl rfl | repeat (first | exact sub_nil | refine sub_cons (by rfl) ?_))
local macro_rules | `(tactic| walk_at "nown") => do
  let a ← alts "nall_nil num_nown:uu sg_nown:uu Nown.int:u Nown.bool:u Nown.fn:u"
  `(tactic| repeat (first | (with_reducible first $[| $a]*) | exact .list (dgs_nown _) | assumption | refine nall_cons ?_ ?_))
local macro_rules | `(tactic| walk_at "om") => do
  let a ← alts "rfl om_ix om_ix2 om_add om_add3 om_suc Int.natCast_nonneg:u om_n60 om_n62 Nat.le_refl:u om_le:ar om_lt:ar om_lt':ar om_60:ar om_62:ar om_pos:a om_ne:a om_01 om_s1 om_p1 om_ge:ar om_gt:ar om_tr:aar om_etr:aar om_ttr:aar om_tlt:aar om_trlt:aar om_etlt:aar om_elt:aa om_elt2:aa om_lle:aa om_nt:a om_nt2:a om_al:ar om_ag:r om_min:ar om_mine:aar om_sh:ar om_sx:a om_ps:a"
  `(tactic| first | assumption | (with_reducible first $[| $a]*) | omega)
-- M12
theorem c_normal {C : Cx} (d : Nat) {w : Nat} (hw : 1 ≤ w) {av : AV} {O0 : List AO} {ds : List Nat} (hs : SeqOf O0 av = some (dgs ds)) (hn : ∀ o ∈ O0, NownO o) (hav : ∀ zs, av ≠ .tup zs) (hlen : ds.length ≤ 1000) (hd : ∀ x ∈ ds, x < 2 ^ w) :
    WFo C (d + 1) 4 [av] O0 (fun r O' => r = num w (val (2 ^ w) ds) ∧ O' = O0) := by
  have hB := two_le_pow hw
  refine WFo_intro (ns := ["a"]) (by decide +kernel) rfl (fun pm code doc vs h => by obtain ⟨a, rfl⟩ := len1 h; rfl) (by decide +kernel) (by decide +kernel) (by decide +kernel) (by decide +kernel) (by decide +kernel) (by decide +kernel) ?_
  intro L a cd
  refine BK fun K hK => ?_
  walk_at "go"
  refine R_len_dgs hs (by walk_at "om") ?_
  walk_at "go"
  refine S_WhileJ (fun n l O => Sub l [("end", .int n), ("a", av)] ∧ O = O0 ∧ n ≤ ds.length ∧ val (2 ^ w) (ds.take n) = val (2 ^ w) ds)
    (fun l O => ∃ n : Nat, Sub l [("end", .int n), ("a", av)] ∧ O = O0 ∧ dg (2 ^ w) (val (2 ^ w) ds) = ds.take n) ds.length ⟨by walk_at "sub", rfl, Nat.le_refl _, by rw [List.take_length]⟩ ?_ ?_
  · rintro n l O ⟨h1, rfl, h2, h3⟩
    refine WT_sub h1 ?_
    walk_at "go"
    refine ⟨fun hb => ?_, fun hb => ⟨fun q => by simp at q, fun _ => ⟨n, ?_, rfl, ?_⟩⟩⟩
    · have hn0 : 0 < n := by simpa using hb
      obtain ⟨m, rfl⟩ : ∃ m, n = m + 1 := ⟨n - 1, by lia         ⟩
      have hm : m < ds.length := by walk_at "om"
      have hx : ds[m]? = some ds[m] := List.getElem?_eq_getElem hm
      walk_at "go"
      refine R_idx_dgs hs (by lia         ) hx (by walk_at "om") ?_
      walk_at "go"
      refine ⟨fun h0 => ?_, fun h0 => ?_⟩
      · walk_at "go"
        refine ⟨m, by lia         , ?_, rfl, by lia         , ?_⟩
        · rw [show ((m : Nat) : Int) = ((m + 1 : Nat) : Int) - 1 by lia         ]; walk_at "sub"
        · have h0' : ds[m] = 0 := by simpa using h0
          rw [← h3, val_take hx, h0', Nat.mul_zero, Nat.add_zero]
      · refine ⟨m + 1, by walk_at "sub", rfl, ?_⟩
        rw [← h3]
        refine dg_val hB (fun x hx => hd x (List.mem_of_mem_take hx)) (.inr ?_)
        have h0' : ds[m] ≠ 0 := by simpa using h0
        rw [val_take hx, List.length_take, Nat.min_eq_left (by walk_at "om"), Nat.add_sub_cancel]
        exact Nat.le_trans (Nat.le_mul_of_pos_right _ (by lia         )) (Nat.le_add_left _ _)
    · walk_at "sub"
    · have : n = 0 := by simpa using hb
      subst this
      rw [← h3]; rfl
  · rintro l O ⟨n, h1, rfl, h2⟩
    refine N_next (WB_sub h1 ?_)
    walk_at "go"
    refine ⟨_, _, rfl, rfl, ?_⟩
    refine ⟨_, _, _, _, hav, hs, rfl, rfl, by rw [dgs_len]; walk_at "om", ?_⟩
    walk_at "go"
    refine ⟨_, _, .inl rfl, .same ?_, by rw [List.take_length]; exact hn, Nat.le_refl _, ?_, List.take_length⟩
    · exact .list fun x hx => dgs_nown _ _ (List.mem_of_mem_take hx)
    · unfold num; rw [h2]; simp [dgs]
-- M13
abbrev msk (w : Nat) : Int := 1 * 2 ^ ((w : Int)).toNat - 1

theorem c_add {C : Cx} (d : Nat) {w m n : Nat} (hw : 1 ≤ w) (hw' : w ≤ 1000) (hm : (dg (2 ^ w) m).length ≤ 500) (hn : (dg (2 ^ w) n).length ≤ 500) :
    WF C (d + 1) 7 [num w m, num w n, .int w] (fun r => r = num w (m + n)) := by
  have hB := two_le_pow hw
  refine WF_intro (ns := ["a", "b", "w"]) (by decide +kernel) rfl (fun pm code doc vs h => by obtain ⟨a, b, c, rfl⟩ := len3 h; rfl) (by decide +kernel) (by decide +kernel) (by decide +kernel) (by decide +kernel) (by decide +kernel) (by decide +kernel) ?_
  intro L a cd
  refine BK fun K hK => ?_
  refine B_cut (fun l O => ∃ p q : Nat, Sub l [("a", num w p), ("b", num w q), ("w", .int w)] ∧ O = [] ∧ p + q = m + n ∧ (dg (2 ^ w) p).length ≤ 500 ∧ (dg (2 ^ w) q).length ≤ (dg (2 ^ w) p).length) ?_ ?_
  · refine SK fun K hK => ?_
    walk_at "go"
    refine R_len_dgs rfl (by walk_at "om") ?_
    walk_at "go"
    refine R_len_dgs rfl (by walk_at "om") ?_
    walk_at "go"
    refine ⟨fun h => ?_, fun h => ?_⟩
    · have h1 : (dg (2 ^ w) m).length < (dg (2 ^ w) n).length := by first | exact om_dlt h | exact om_dle h | exact om_dp h | (have := of_decide_eq_true h; walk_at "om")
      walk_at "go"
      exact ⟨n, m, by walk_at "sub", rfl, by lia         , hn, by lia         ⟩
    · have h1 : ¬ (dg (2 ^ w) m).length < (dg (2 ^ w) n).length := by first | exact om_dnlt h | exact om_dnle h | exact om_dnp h | (have := of_decide_eq_false h; walk_at "om")
      walk_at "go"
      exact ⟨m, n, by walk_at "sub", rfl, rfl, hm, by lia         ⟩
  · rintro l O ⟨p, q, hl, rfl, hpq, hp, hq⟩
    refine WB_sub hl ?_
    generalize hA : dg (2 ^ w) p = as at *
    generalize hBb : dg (2 ^ w) q = bs at *
    have nA : num w p = .list (dgs as) := by unfold num; rw [hA]
    have nB : num w q = .list (dgs bs) := by unfold num; rw [hBb]
    have vA : val (2 ^ w) as = p := by rw [← hA]; exact val_dg hB p
    have vB : val (2 ^ w) bs = q := by rw [← hBb]; exact val_dg hB q
    have lA : ∀ x ∈ as, x < 2 ^ w := by rw [← hA]; exact dg_lt hB p
    have lB : ∀ x ∈ bs, x < 2 ^ w := by rw [← hBb]; exact dg_lt hB q
    rw [nA, nB]
    walk_at "go"
    refine R_shl (by walk_at "om") ?_
    walk_at "go"
    refine S_ForR (.inl (by rfl)) ?_
    walk_at "go"
    refine R_len_dgs rfl (by walk_at "om") ?_
    refine ⟨_, _, rfl, rfl, by walk_at "om", by lia         , ?_⟩
    refine ⟨_, _, _, rfl, fun t l O => ∃ fs c, Sub l [("a", .list (dgs as)), ("b", .list (dgs bs)), ("w", .int w), ("found", .own 0), ("carry", .int (c : Nat)), ("mask", .int (msk w))] ∧ O = [.lst (dgs fs)] ∧ fs.length = t ∧ (∀ x ∈ fs, x < 2 ^ w) ∧
      val (2 ^ w) fs + (2 ^ w) ^ t * c = val (2 ^ w) (as.take t) + val (2 ^ w) (bs.take t) ∧ c ≤ 1, ⟨[], 0, by walk_at "sub", rfl, rfl, by simp, by simp [val], by lia         ⟩, ?_, ?_⟩
    · intro t k l O
      refine BK3 fun K hK => ?_
      rintro ht rfl ⟨fs, c, hs, rfl, hf, hfs, hv, hc⟩
      have ht' : t < bs.length := by simpa using ht
      have hx : as[t]? = some as[t] := List.getElem?_eq_getElem (by walk_at "om")
      have hy : bs[t]? = some bs[t] := List.getElem?_eq_getElem ht'
      have hxl := lA _ (List.mem_of_getElem? hx)
      have hyl := lB _ (List.mem_of_getElem? hy)
      generalize as[t] = x at *
      generalize bs[t] = y at *
      refine WB_sub (sub_in hs rfl) ?_
      have e1 : ((c : Nat) : Int) + ((x : Int) + y) = ((c + (x + y) : Nat) : Int) := by walk_at "om"
      walk_at "go"
      refine R_idx_dgs rfl (by walk_at "om") hx (by walk_at "om") ?_
      walk_at "go"
      refine R_idx_dgs rfl (by walk_at "om") hy (by walk_at "om") ?_
      walk_at "go"
      rw [e1]
      refine R_app2 rfl (by rw [dgs_len]; lia         ) ?_
      rw [mask_nat, dgs_snoc]
      walk_at "go"
      refine R_shr (by walk_at "om") ?_
      rw [shr_nat]
      walk_at "go"
      refine ⟨_, _, by walk_at "sub", rfl, by rw [List.length_append, hf]; rfl, all_snoc hfs (Nat.mod_lt _ (by walk_at "om")), ?_, div_le_one (by lia         )⟩
      rw [val_push hf, val_take hx, val_take hy]
      grind
    · rintro l O ⟨fs, c, hs, rfl, hf, hfs, hv, hc⟩
      rw [Int.toNat_natCast] at hf hv
      refine N_next (WB_sub hs ?_)
      walk_at "s"
      refine S_ForR (.inl (by rfl)) ?_
      walk_at "go"
      refine R_len_dgs rfl (by walk_at "om") ?_
      walk_at "go"
      refine R_len_dgs rfl (by walk_at "om") ?_
      refine ⟨_, _, rfl, rfl, ⟨by walk_at "om", by lia         ⟩, ⟨by walk_at "om", by walk_at "om"⟩, ?_⟩
      refine ⟨_, _, _, rfl, fun t l O => ∃ fs c, Sub l [("a", .list (dgs as)), ("w", .int w), ("found", .own 0), ("carry", .int (c : Nat)), ("mask", .int (msk w))] ∧ O = [.lst (dgs fs)] ∧ fs.length = bs.length + t ∧ (∀ x ∈ fs, x < 2 ^ w) ∧
        val (2 ^ w) fs + (2 ^ w) ^ (bs.length + t) * c = val (2 ^ w) (as.take (bs.length + t)) + q ∧ c ≤ 1, ⟨fs, c, by walk_at "sub", rfl, by walk_at "om", hfs, by rw [Nat.add_zero, hv, List.take_length, vB], by walk_at "om"⟩, ?_, ?_⟩
      · intro t k l O
        refine BK3 fun K hK => ?_
        rintro ht rfl ⟨fs, c, hs, rfl, hf, hfs, hv, hc⟩
        have ht' : bs.length + t < as.length := by lia
        have hx : as[bs.length + t]? = some as[bs.length + t] := List.getElem?_eq_getElem ht'
        have hxl := lA _ (List.mem_of_getElem? hx)
        generalize as[bs.length + t] = x at *
        refine WB_sub (sub_in hs rfl) ?_
        have e1 : ((c : Nat) : Int) + (x : Int) = ((c + x : Nat) : Int) := by walk_at "om"
        walk_at "go"
        refine R_idx_dgs rfl (by walk_at "om") hx (by walk_at "om") ?_
        walk_at "go"
        rw [e1]
        refine R_app2 rfl (by rw [dgs_len]; lia         ) ?_
        rw [mask_nat, dgs_snoc]
        walk_at "go"
        refine R_shr (by walk_at "om") ?_
        rw [shr_nat]
        walk_at "go"
        refine ⟨_, _, by walk_at "sub", rfl, by rw [List.length_append, hf]; rfl, all_snoc hfs (Nat.mod_lt _ (by walk_at "om")), ?_, div_le_one (by lia         )⟩
        rw [← Nat.add_assoc, val_push hf, val_take hx]
        grind
      · rintro l O ⟨fs, c, hs, rfl, hf, hfs, hv, hc⟩
        have hl : bs.length + ((as.length : Int) - bs.length).toNat = as.length := by lia
        rw [hl] at hf hv
        rw [List.take_length, vA] at hv
        refine N_next (WB_sub hs ?_)
        walk_at "go"
        refine ⟨fun h => ?_, fun h => ?_⟩
        · have h1 : c = 1 := by have : (0 : Int) < c := by simpa using h
                                lia
          subst h1
          walk_at "go"
          refine R_app2 rfl (by rw [dgs_len]; walk_at "om") ?_
          rw [dgs_snoc]
          walk_at "go"
          refine ⟨_, _, .inl rfl, .lst rfl (Nat.zero_le _) (dgs_nown _), ?_⟩
          have hv' : val (2 ^ w) (fs ++ [1]) = m + n := by rw [val_append, hf]; simp only [val]; lia
          refine dgs_num hw (all_snoc hfs (by walk_at "om")) (.inr ?_) hv'
          rw [hv', List.length_append, hf]
          simp only [List.length_singleton, Nat.add_sub_cancel]
          lia
        · have h1 : c = 0 := by have : ¬ (0 : Int) < c := by simpa using h
                                lia
          subst h1
          walk_at "go"
          refine ⟨_, _, .inl rfl, .lst rfl (Nat.zero_le _) (dgs_nown _), ?_⟩
          have hv' : val (2 ^ w) fs = m + n := by lia
          refine dgs_num hw hfs ?_ hv'
          rw [← hA] at hf
          rcases dg_canon hB p with hc | hc
          · exact .inl (by lia         )
          · right; rw [hv', hf]; rw [val_dg hB] at hc; lia
-- M14
noncomputable def cmpI (m n : Nat) : Int := if m < n then -1 else if m = n then 0 else 1

theorem c_compare {C : Cx} (d : Nat) {w m n : Nat} (hw : 1 ≤ w) (hm : (dg (2 ^ w) m).length ≤ 500) (hn : (dg (2 ^ w) n).length ≤ 500) :
    WF C (d + 1) 6 [num w m, num w n] (fun r => r = .int (cmpI m n)) := by
  have hB := two_le_pow hw
  have lenlt : ∀ {m n : Nat}, (dg (2 ^ w) m).length < (dg (2 ^ w) n).length → m < n := fun {m n} h => by
    rcases Nat.lt_or_ge m n with q | q
    · exact q
    · have := dg_len_mono hB q; lia
  refine WF_intro (ns := ["a", "b"]) (by decide +kernel) rfl (fun pm code doc vs h => by obtain ⟨a, b, rfl⟩ := len2 h; rfl) (by decide +kernel) (by decide +kernel) (by decide +kernel) (by decide +kernel) (by decide +kernel) (by decide +kernel) ?_
  intro L a cd
  refine BK fun K hK => ?_
  refine B_cut (fun l O => Sub l [("a", num w m), ("b", num w n)] ∧ O = [] ∧ (dg (2 ^ w) m).length = (dg (2 ^ w) n).length) ?_ ?_
  · refine SK fun K hK => ?_
    walk_at "go"
    refine R_len_dgs rfl (by walk_at "om") ?_
    walk_at "go"
    refine R_len_dgs rfl (by walk_at "om") ?_
    walk_at "go"
    refine ⟨fun h => ?_, fun h => ?_⟩
    · have h1 : (dg (2 ^ w) m).length ≠ (dg (2 ^ w) n).length := by have := (bne_iff_ne).mp h; lia
      walk_at "go"
      refine R_len_dgs rfl (by walk_at "om") ?_
      walk_at "go"
      refine R_len_dgs rfl (by walk_at "om") ?_
      walk_at "go"
      refine ⟨fun h => ?_, fun h => ?_⟩
      · walk_at "go"
        refine ⟨_, _, .inl rfl, .same (.int _), ?_⟩
        have := lenlt (m := m) (n := n) (by first | exact om_dlt h | exact om_dle h | exact om_dp h | (have := of_decide_eq_true h; walk_at "om"))
        unfold cmpI; rw [if_pos this]
      · walk_at "go"
        refine ⟨_, _, .inl rfl, .same (.int _), ?_⟩
        have := lenlt (m := n) (n := m) (by first | exact om_dnlt h | exact om_dnle h | exact om_dnp h | (have := of_decide_eq_false h; lia         ))
        unfold cmpI; rw [if_neg (by lia         ), if_neg (by lia         )]
    · have h1 : (dg (2 ^ w) m).length = (dg (2 ^ w) n).length := by have := bne_eq_false_iff_eq.mp h; lia
      walk_at "go"
      exact ⟨by walk_at "sub", rfl, h1⟩
  · rintro l O ⟨hl, rfl, hmn⟩
    refine WB_sub hl ?_
    generalize hA : dg (2 ^ w) m = as at *
    generalize hBb : dg (2 ^ w) n = bs at *
    have nA : num w m = .list (dgs as) := by unfold num; rw [hA]
    have nB : num w n = .list (dgs bs) := by unfold num; rw [hBb]
    have vA : val (2 ^ w) as = m := by rw [← hA]; exact val_dg hB m
    have vB : val (2 ^ w) bs = n := by rw [← hBb]; exact val_dg hB n
    have lA : ∀ x ∈ as, x < 2 ^ w := by rw [← hA]; exact dg_lt hB m
    have lB : ∀ x ∈ bs, x < 2 ^ w := by rw [← hBb]; exact dg_lt hB n
    -- a digit decides
    have dec : ∀ {as bs : List Nat} {i x y : Nat}, (∀ x ∈ as, x < 2 ^ w) → as[i]? = some x → bs[i]? = some y → as.drop (i + 1) = bs.drop (i + 1) → x < y → val (2 ^ w) as < val (2 ^ w) bs := by
      intro as bs i x y lA hx hy he hxy
      have e1 := val_append (2 ^ w) (as.take i) (as.drop i)
      have e2 := val_append (2 ^ w) (bs.take i) (bs.drop i)
      rw [List.take_append_drop, List.length_take, Nat.min_eq_left (Nat.le_of_lt (List.getElem?_eq_some_iff.mp hx).1), val_drop hx, he] at e1
      rw [List.take_append_drop, List.length_take, Nat.min_eq_left (Nat.le_of_lt (List.getElem?_eq_some_iff.mp hy).1), val_drop hy] at e2
      have h3 := val_lt (B := 2 ^ w) (by walk_at "om") (xs := as.take i) fun x hx => lA x (List.mem_of_mem_take hx)
      rw [List.length_take, Nat.min_eq_left (Nat.le_of_lt (List.getElem?_eq_some_iff.mp hx).1)] at h3
      have h4 : (2 ^ w) ^ i * (x + 2 ^ w * val (2 ^ w) (bs.drop (i + 1))) + (2 ^ w) ^ i ≤ (2 ^ w) ^ i * (y + 2 ^ w * val (2 ^ w) (bs.drop (i + 1))) := by
        have : (2 ^ w) ^ i * (x + 2 ^ w * val (2 ^ w) (bs.drop (i + 1)) + 1) ≤ (2 ^ w) ^ i * (y + 2 ^ w * val (2 ^ w) (bs.drop (i + 1))) := Nat.mul_le_mul_left _ (by lia         )
        rw [Nat.mul_add _ _ 1, Nat.mul_one] at this
        exact this
      lia
    rw [nA, nB]
    walk_at "s"
    refine S_ForR (.inl (by rfl)) ?_
    walk_at "go"
    refine R_len_dgs rfl (by walk_at "om") ?_
    walk_at "go"
    refine R_down rfl rfl rfl (by walk_at "om") ?_
    refine ⟨_, _, _, rfl, fun t l O => Sub l [("a", .list (dgs as)), ("b", .list (dgs bs))] ∧ O = [] ∧ as.drop (as.length - t) = bs.drop (as.length - t), ⟨by walk_at "sub", rfl, by rw [Nat.sub_zero, List.drop_length, hmn, List.drop_length]⟩, ?_, ?_⟩
    · intro t k l O
      refine BK3 fun K hK => ?_
      rintro ht rfl ⟨hs, rfl, he⟩
      obtain ⟨i, hi⟩ : ∃ i, as.length = i + t + 1 := ⟨as.length - t - 1, by walk_at "om"⟩
      have hx : as[i]? = some as[i] := List.getElem?_eq_getElem (by lia         )
      have hy : bs[i]? = some bs[i] := List.getElem?_eq_getElem (by lia         )
      generalize as[i] = x at *
      generalize bs[i] = y at *
      rw [show as.length - t = i + 1 by lia         ] at he
      refine WB_sub (sub_in hs rfl) ?_
      walk_at "go"
      refine R_idx_dgs (k := i) rfl (by lia         ) hx (by walk_at "om") ?_
      walk_at "go"
      refine R_idx_dgs (k := i) rfl (by lia         ) hy (by walk_at "om") ?_
      walk_at "go"
      refine ⟨fun h => ?_, fun h => ?_⟩
      · have h1 : x ≠ y := by have := (bne_iff_ne).mp h; lia
        walk_at "go"
        refine R_idx_dgs (k := i) rfl (by lia         ) hx (by walk_at "om") ?_
        walk_at "go"
        refine R_idx_dgs (k := i) rfl (by lia         ) hy (by walk_at "om") ?_
        walk_at "go"
        refine ⟨fun h => ?_, fun h => ?_⟩
        · walk_at "go"
          refine ⟨_, _, .inl rfl, .same (.int _), ?_⟩
          have := dec lA hx hy he (by first | exact om_dlt h | exact om_dle h | exact om_dp h | (have := of_decide_eq_true h; walk_at "om"))
          unfold cmpI; rw [if_pos (by lia         )]
        · walk_at "go"
          refine ⟨_, _, .inl rfl, .same (.int _), ?_⟩
          have := dec lB hy hx he.symm (by first | exact om_dnlt h | exact om_dnle h | exact om_dnp h | (have := of_decide_eq_false h; lia         ))
          unfold cmpI; rw [if_neg (by lia         ), if_neg (by lia         )]
      · have h1 : x = y := by have := bne_eq_false_iff_eq.mp h; lia
        walk_at "go"
        refine ⟨by walk_at "sub", rfl, ?_⟩
        rw [show as.length - (t + 1) = i by lia         , List.drop_eq_getElem_cons (by lia          : i < as.length), List.drop_eq_getElem_cons (by lia          : i < bs.length), he]
        rw [List.getElem?_eq_getElem (by lia          : i < as.length)] at hx
        rw [List.getElem?_eq_getElem (by lia          : i < bs.length)] at hy
        rw [Option.some.inj hx, Option.some.inj hy, h1]
    · rintro l O ⟨hs, rfl, he⟩
      refine N_next (WB_sub hs ?_)
      walk_at "go"
      refine ⟨_, _, .inl rfl, .same (.int _), ?_⟩
      rw [Nat.sub_self] at he
      have : m = n := by rw [← vA, ← vB]; exact congrArg _ he
      unfold cmpI; rw [if_neg (by lia         ), if_pos this]
-- M15
theorem val_takeD {B : Nat} (xs : List Nat) (i : Nat) : val B (xs.take (i + 1)) = val B (xs.take i) + B ^ i * (xs[i]?.getD 0) := by
  cases h : xs[i]? with
  | some x => rw [val_take h]; rfl
  | none =>
    have := List.getElem?_eq_none_iff.mp h
    rw [List.take_of_length_le this, List.take_of_length_le (by lia         )]; simp

theorem c_sub {C : Cx} (d : Nat) {w m n : Nat} (hw : 1 ≤ w) (hw' : w ≤ 1000) (hm : (dg (2 ^ w) m).length ≤ 500) (hmn : n ≤ m) :
    WF C (d + 2) 8 [num w m, num w n, .int w] (fun r => r = num w (m - n)) := by
  have hB := two_le_pow hw
  have hlen := dg_len_mono hB hmn
  refine WF_intro (ns := ["a", "b", "w"]) (by decide +kernel) rfl (fun pm code doc vs h => by obtain ⟨a, b, c, rfl⟩ := len3 h; rfl) (by decide +kernel) (by decide +kernel) (by decide +kernel) (by decide +kernel) (by decide +kernel) (by decide +kernel) ?_
  intro L a cd
  refine BK fun K hK => ?_
  refine B_cut (fun l O => Sub l [("a", num w m), ("b", num w n), ("w", .int w)] ∧ O = []) ?_ ?_
  · refine SK fun K hK => ?_
    walk_at "go"
    refine R_cal (c_compare d hw hm (by walk_at "om")) (by walk_at "nown") ?_
    rintro r rfl
    walk_at "go"
    refine ⟨fun h => ?_, fun h => ?_⟩
    · have h1 := of_decide_eq_true h
      unfold cmpI at h1
      rw [if_neg (by lia         )] at h1
      split at h1 <;> lia
    · walk_at "go"
      exact ⟨by walk_at "sub", rfl⟩
  · rintro l O ⟨hl, rfl⟩
    refine WB_sub hl ?_
    generalize hA : dg (2 ^ w) m = as at *
    generalize hBb : dg (2 ^ w) n = bs at *
    have nA : num w m = .list (dgs as) := by unfold num; rw [hA]
    have nB : num w n = .list (dgs bs) := by unfold num; rw [hBb]
    have vA : val (2 ^ w) as = m := by rw [← hA]; exact val_dg hB m
    have vB : val (2 ^ w) bs = n := by rw [← hBb]; exact val_dg hB n
    have lA : ∀ x ∈ as, x < 2 ^ w := by rw [← hA]; exact dg_lt hB m
    have lB : ∀ x ∈ bs, x < 2 ^ w := by rw [← hBb]; exact dg_lt hB n
    rw [nA, nB]
    have hbase : (1 : Int) * 2 ^ ((w : Int)).toNat = ((2 ^ w : Nat) : Int) := by rw [Int.toNat_natCast]; simp
    walk_at "go"
    refine R_shl (by walk_at "om") ?_
    rw [hbase]
    walk_at "go"
    refine S_ForR (.inl (by rfl)) ?_
    walk_at "go"
    refine R_len_dgs rfl (by walk_at "om") ?_
    refine R_rng1 rfl (by walk_at "om") ?_
    refine ⟨_, _, _, rfl, fun t l O => ∃ fs c, Sub l [("a", .list (dgs as)), ("b", .list (dgs bs)), ("w", .int w), ("found", .own 0), ("borrow", .int (c : Nat)), ("base", .int (2 ^ w : Nat))] ∧ O = [.lst (dgs fs)] ∧ fs.length = t ∧ (∀ x ∈ fs, x < 2 ^ w) ∧
      val (2 ^ w) (as.take t) + (2 ^ w) ^ t * c = val (2 ^ w) (bs.take t) + val (2 ^ w) fs ∧ c ≤ 1, ⟨[], 0, by walk_at "sub", rfl, rfl, by simp, by simp [val], by lia         ⟩, ?_, ?_⟩
    · intro t k l O
      refine BK3 fun K hK => ?_
      rintro ht rfl ⟨fs, c, hs, rfl, hf, hfs, hv, hc⟩
      have hx : as[t]? = some as[t] := List.getElem?_eq_getElem ht
      have hxl := lA _ (List.mem_of_getElem? hx)
      have hyl : bs[t]?.getD 0 < 2 ^ w := by
        cases q : bs[t]? with
        | none => show 0 < 2 ^ w; walk_at "om"
        | some y => exact lB y (List.mem_of_getElem? q)
      have hvB := val_takeD (B := 2 ^ w) bs t
      generalize hyD : bs[t]?.getD 0 = y at *
      generalize as[t] = x at *
      refine WB_sub (sub_in hs rfl) ?_
      refine B_cut (fun l O => Sub l [("limb", .int ((x : Int) - c - y)), ("a", .list (dgs as)), ("b", .list (dgs bs)), ("w", .int w), ("found", .own 0), ("borrow", .int (c : Nat)), ("base", .int (2 ^ w : Nat))] ∧ O = [.lst (dgs fs)]) ?_ ?_
      · refine SK fun K hK => ?_
        walk_at "go"
        refine R_idx_dgs rfl (by walk_at "om") hx (by walk_at "om") ?_
        walk_at "go"
        refine R_len_dgs rfl (by walk_at "om") ?_
        walk_at "go"
        refine ⟨fun h => ?_, fun h => ?_⟩
        · have hy : bs[t]? = some y := by
            have : t < bs.length := by first | exact om_dlt h | exact om_dle h | exact om_dp h | (have := of_decide_eq_true h; lia         )
            rw [List.getElem?_eq_getElem this] at hyD ⊢
            exact congrArg some hyD
          walk_at "go"
          refine R_idx_dgs rfl (by walk_at "om") hy (by walk_at "om") ?_
          walk_at "go"
          exact ⟨by walk_at "sub", rfl⟩
        · have hy : y = 0 := by
            have : bs.length ≤ t := by first | exact om_dnlt h | exact om_dnle h | exact om_dnp h | (have := of_decide_eq_false h; lia         )
            rw [List.getElem?_eq_none_iff.mpr this] at hyD
            exact hyD.symm
          subst hy
          walk_at "go"
          exact ⟨by walk_at "sub", rfl⟩
      · rintro l O ⟨hs, rfl⟩
        refine WB_sub hs ?_
        by_cases hneg : (x : Int) - c - y < 0
        · have e1 : (x : Int) - c - y + (2 ^ w : Nat) = ((x + 2 ^ w - c - y : Nat) : Int) := by lia
          walk_at "go"
          refine ⟨fun h => ?_, fun h => absurd hneg (of_decide_eq_false h)⟩
          walk_at "go"
          refine ⟨fun h => ?_, fun h => absurd hneg (of_decide_eq_false h)⟩
          walk_at "go"
          rw [e1]
          refine R_app2 rfl (by rw [dgs_len]; lia         ) ?_
          rw [dgs_snoc]
          walk_at "go"
          refine ⟨_, 1, by walk_at "sub", rfl, by rw [List.length_append, hf]; rfl, all_snoc hfs (by lia         ), ?_, by walk_at "om"⟩
          rw [val_take hx, hvB, val_append, hf, Nat.pow_succ]
          simp only [val]
          have : x + 2 ^ w - c - y + c + y = x + 2 ^ w := by lia
          grind
        · have e1 : (x : Int) - c - y = ((x - c - y : Nat) : Int) := by lia
          walk_at "go"
          refine ⟨fun h => absurd (of_decide_eq_true h) hneg, fun h => ?_⟩
          walk_at "go"
          refine ⟨fun h => absurd (of_decide_eq_true h) hneg, fun h => ?_⟩
          walk_at "go"
          rw [e1]
          refine R_app2 rfl (by rw [dgs_len]; lia         ) ?_
          rw [dgs_snoc]
          walk_at "go"
          refine ⟨_, 0, by walk_at "sub", rfl, by rw [List.length_append, hf]; rfl, all_snoc hfs (by lia         ), ?_, by walk_at "om"⟩
          rw [val_take hx, hvB, val_append, hf]
          simp only [val]
          have : x - c - y + c + y = x := by lia
          grind
    · rintro l O ⟨fs, c, hs, rfl, hf, hfs, hv, hc⟩
      rw [List.take_length, List.take_of_length_le hlen, vA, vB] at hv
      have h1 := val_lt (by walk_at "om") hfs
      rw [hf] at h1
      have hc0 : c = 0 := by
        rcases Nat.lt_or_ge 0 c with q | q
        · have : c = 1 := by lia
          subst this; lia
        · lia
      subst hc0
      refine N_next (WB_sub hs ?_)
      walk_at "go"
      refine R_calO (c_normal d hw (av := .own 0) (ds := fs) rfl (by simp [NownO]; exact dgs_nown _) (by simp) (by walk_at "om") hfs) rfl (dgs_nown _) (by walk_at "nown") ?_
      rintro r rfl
      walk_at "go"
      exact ⟨_, _, .inl rfl, .same (num_nown _ _), by rw [show val (2 ^ w) fs = m - n by lia         ]⟩
-- M16
theorem c_divrem_limb {C : Cx} (d : Nat) {w m k : Nat} (hw : 1 ≤ w) (hw' : w ≤ 30) (hm : (dg (2 ^ w) m).length ≤ 500) (hk : 0 < k) (hkw : k < 2 ^ w) :
    WF C (d + 2) 9 [num w m, .int k, .int w] (fun r => r = .tup [num w (m / k), .int (m % k : Nat)]) := by
  have hB := two_le_pow hw
  have hB' : 2 ^ w ≤ 2 ^ 30 := Nat.pow_le_pow_right (by lia         ) hw'
  refine WF_intro (ns := ["a", "limb", "w"]) (by decide +kernel) rfl (fun pm code doc vs h => by obtain ⟨a, b, c, rfl⟩ := len3 h; rfl) (by decide +kernel) (by decide +kernel) (by decide +kernel) (by decide +kernel) (by decide +kernel) (by decide +kernel) ?_
  intro L a cd
  refine BK fun K hK => ?_
  generalize hA : dg (2 ^ w) m = as at *
  have nA : num w m = .list (dgs as) := by unfold num; rw [hA]
  have vA : val (2 ^ w) as = m := by rw [← hA]; exact val_dg hB m
  have lA : ∀ x ∈ as, x < 2 ^ w := by rw [← hA]; exact dg_lt hB m
  rw [nA]
  walk_at "go"
  refine ⟨fun h => ?_, fun h => ?_⟩
  · have h1 : (k : Int) = 0 := by simpa using h
    lia
  walk_at "go"
  refine R_len_dgs rfl (by walk_at "om") ?_
  refine R_rep rfl rfl (by walk_at "om") ?_
  rw [dgs_rep]
  walk_at "go"
  refine S_ForR (.inl (by rfl)) ?_
  walk_at "go"
  refine R_len_dgs rfl (by walk_at "om") ?_
  walk_at "go"
  refine R_down rfl rfl rfl (by walk_at "om") ?_
  refine ⟨_, _, _, rfl, fun t l O => ∃ fs, Sub l [("a", .list (dgs as)), ("limb", .int k), ("w", .int w), ("found", .own 1), ("rest", .int (val (2 ^ w) (as.drop (as.length - t)) % k : Nat))] ∧ (O = [.lst [.int 0], .lst (dgs fs)] ∨ O = [.lst [.int 0], .fix (dgs fs)]) ∧ fs.length = as.length ∧ (∀ x ∈ fs, x < 2 ^ w) ∧
      val (2 ^ w) fs = (2 ^ w) ^ (as.length - t) * (val (2 ^ w) (as.drop (as.length - t)) / k) ∧ (∀ i, i < as.length - t → fs[i]? = some 0), ⟨List.replicate as.length 0, by rw [Nat.sub_zero, List.drop_length]; show Sub _ [_, _, _, _, (_, AV.int (0 % k : Nat))]; rw [Nat.zero_mod]; walk_at "sub", .inl rfl, by simp, fun x hx => by rw [List.eq_of_mem_replicate hx]; walk_at "om", by rw [Nat.sub_zero, List.drop_length, val_zeros]; exact (by simp : 0 = (2 ^ w) ^ as.length * (0 / k)), fun i hi => by rw [List.getElem?_replicate, if_pos (by walk_at "om")]⟩, ?_, ?_⟩
  · intro t k' l O
    refine BK3 fun K hK => ?_
    rintro ht rfl ⟨fs, hs, hO, hf, hfs, hv, hz⟩
    obtain ⟨i, hi⟩ : ∃ i, as.length = i + t + 1 := ⟨as.length - t - 1, by walk_at "om"⟩
    have hx : as[i]? = some as[i] := List.getElem?_eq_getElem (by lia         )
    have hxl := lA _ (List.mem_of_getElem? hx)
    have hT := val_drop (B := 2 ^ w) hx
    generalize as[i] = x at *
    rw [show as.length - t = i + 1 by lia         ] at *
    generalize val (2 ^ w) (as.drop (i + 1)) = T at *
    have hr : T % k < k := Nat.mod_lt _ hk
    have hlo : ListOf O 1 = some (dgs fs) := by rcases hO with rfl | rfl <;> rfl
    refine WB_sub (sub_in hs rfl) ?_
    walk_at "go"
    refine R_shl (by lia         ) ?_
    walk_at "go"
    refine R_idx_dgs (k := i) rfl (by lia         ) hx (by walk_at "om") ?_
    walk_at "go"
    rw [shl_or_nat hxl]
    walk_at "go"
    refine R_div' (by lia         ) (by lia         ) ?_
    rw [fdiv_nat]
    walk_at "go"
    refine R_set (k := i) hlo (by lia         ) (by rw [dgs_len]; lia         ) (by rw [dgs_len]; walk_at "om") ?_
    walk_at "go"
    refine R_mod (by lia         ) ?_
    rw [fmod_nat, dgs_set]
    walk_at "go"
    have hd := Nat.div_add_mod T k
    have e1 : val (2 ^ w) (as.drop i) = (T % k * 2 ^ w + x) + k * (2 ^ w * (T / k)) := by
      rw [hT]; grind
    have e2 : (T % k * 2 ^ w + x) / k < 2 ^ w := by
      refine Nat.div_lt_of_lt_mul ?_
      have : (T % k + 1) * 2 ^ w ≤ k * 2 ^ w := Nat.mul_le_mul_right _ hr
      rw [Nat.add_mul, Nat.one_mul] at this
      lia
    refine ⟨fs.set i ((T % k * 2 ^ w + x) / k), ?_, ?_, by rw [List.length_set, hf], ?_, ?_, ?_⟩
    · rw [show as.length - (t + 1) = i by lia         , e1, Nat.add_mul_mod_self_left]
      walk_at "sub"
    · right; rcases hO with rfl | rfl <;> rfl
    · intro y hy
      rcases List.mem_or_eq_of_mem_set hy with hy | rfl
      · exact hfs y hy
      · exact e2
    · have h1 := val_set (B := 2 ^ w) (x := (T % k * 2 ^ w + x) / k) (hz i (by lia         ))
      rw [show as.length - (t + 1) = i by lia         , e1, Nat.add_mul_div_left _ _ hk]
      rw [hv, Nat.pow_succ] at h1
      grind
    · intro j hj
      rw [List.getElem?_set_ne (by lia         )]
      exact hz j (by lia         )
  · rintro l O ⟨fs, hs, hO, hf, hfs, hv, hz⟩
    rw [Nat.sub_self, List.drop_zero, vA] at hs hv
    rw [Nat.pow_zero, Nat.one_mul] at hv
    have hlo : ∃ o, O[1]? = some o ∧ NownO o ∧ SeqOf [o] (.own 0) = some (dgs fs) := by
      rcases hO with rfl | rfl
      · exact ⟨_, rfl, dgs_nown _, rfl⟩
      · exact ⟨_, rfl, dgs_nown _, rfl⟩
    obtain ⟨o, ho, hno, hso⟩ := hlo
    refine N_next (WB_sub hs ?_)
    walk_at "go"
    refine R_calO (c_normal d hw (av := .own 0) (ds := fs) hso (by simp [hno]) (by simp) (by walk_at "om") hfs) ho hno (by walk_at "nown") ?_
    rintro r rfl
    walk_at "go"
    exact ⟨_, _, .inl rfl, .same (.tup (by walk_at "nown")), by rw [hv]⟩
-- M17
theorem c_mul {C : Cx} (d : Nat) {w m n : Nat} (hw : 1 ≤ w) (hw' : w ≤ 30) (hm : (dg (2 ^ w) m).length ≤ 400) (hn : (dg (2 ^ w) n).length ≤ 400) :
    WF C (d + 2) 37 [num w m, num w n, .int w] (fun r => r = num w (m * n)) := by
  have hB := two_le_pow hw
  have hB' : 2 ^ w ≤ 2 ^ 30 := Nat.pow_le_pow_right (by lia         ) hw'
  refine WF_intro (ns := ["a", "b", "w"]) (by decide +kernel) rfl (fun pm code doc vs h => by obtain ⟨a, b, c, rfl⟩ := len3 h; rfl) (by decide +kernel) (by decide +kernel) (by decide +kernel) (by decide +kernel) (by decide +kernel) (by decide +kernel) ?_
  intro L a cd
  refine BK fun K hK => ?_
  generalize hA : dg (2 ^ w) m = as at *
  generalize hBb : dg (2 ^ w) n = bs at *
  have nA : num w m = .list (dgs as) := by unfold num; rw [hA]
  have nB : num w n = .list (dgs bs) := by unfold num; rw [hBb]
  have vA : val (2 ^ w) as = m := by rw [← hA]; exact val_dg hB m
  have vB : val (2 ^ w) bs = n := by rw [← hBb]; exact val_dg hB n
  have lA : ∀ x ∈ as, x < 2 ^ w := by rw [← hA]; exact dg_lt hB m
  have lB : ∀ x ∈ bs, x < 2 ^ w := by rw [← hBb]; exact dg_lt hB n
  rw [nA, nB]
  walk_at "go"
  refine R_len_dgs rfl (by walk_at "om") ?_
  walk_at "go"
  refine R_len_dgs rfl (by walk_at "om") ?_
  walk_at "go"
  refine R_rep (k := as.length + bs.length) rfl (by walk_at "om") (by lia         ) ?_
  rw [dgs_rep]
  walk_at "go"
  refine R_shl (by walk_at "om") ?_
  walk_at "go"
  refine S_ForE rfl (by rfl) (.inl (by rfl)) (.inl (by rfl)) ?_
  walk_at "go"
  refine ⟨_, rfl, fun t l O => ∃ fs, Sub l [("a", .list (dgs as)), ("b", .list (dgs bs)), ("w", .int w), ("found", .own 1), ("mask", .int (msk w))] ∧ (O = [.lst [.int 0], .lst (dgs fs)] ∨ O = [.lst [.int 0], .fix (dgs fs)]) ∧ fs.length = as.length + bs.length ∧ (∀ x ∈ fs, x < 2 ^ w) ∧
      val (2 ^ w) fs = val (2 ^ w) (as.take t) * n ∧ (∀ i, t + bs.length ≤ i → i < as.length + bs.length → fs[i]? = some 0), ⟨List.replicate (as.length + bs.length) 0, by walk_at "sub", .inl rfl, by simp, fun x hx => by rw [List.eq_of_mem_replicate hx]; walk_at "om", by rw [val_zeros]; simp [val], fun i _ hi => by rw [List.getElem?_replicate, if_pos hi]⟩, ?_, ?_⟩
  · intro t z l O
    refine BK2 fun K hK => ?_
    rintro hz ⟨fs, hs, hO, hf, hfs, hv, hz0⟩
    have ht : t < as.length := by have := (List.getElem?_eq_some_iff.mp hz).1; rwa [dgs_len] at this
    have hx : as[t]? = some as[t] := List.getElem?_eq_getElem ht
    rw [dgs_get hx] at hz; cases hz
    have hxl := lA _ (List.mem_of_getElem? hx)
    have hvt := val_take (B := 2 ^ w) hx
    generalize as[t] = x at *
    refine WB_sub (sub_in (sub_in hs rfl) rfl) ?_
    walk_at "go"
    refine S_ForE rfl (by rfl) (.inl (by rfl)) (.inl (by rfl)) ?_
    walk_at "go"
    refine ⟨_, rfl, fun s l O => ∃ gs c, Sub l [("limb", .int x), ("at", .int t), ("a", .list (dgs as)), ("b", .list (dgs bs)), ("w", .int w), ("found", .own 1), ("mask", .int (msk w)), ("carry", .int (c : Nat))] ∧ (O = [.lst [.int 0], .lst (dgs gs)] ∨ O = [.lst [.int 0], .fix (dgs gs)]) ∧ gs.length = as.length + bs.length ∧ (∀ x ∈ gs, x < 2 ^ w) ∧ c < 2 ^ w ∧
        val (2 ^ w) gs + (2 ^ w) ^ (t + s) * c = val (2 ^ w) fs + (2 ^ w) ^ t * (x * val (2 ^ w) (bs.take s)) ∧ (∀ i, t + bs.length ≤ i → i < as.length + bs.length → gs[i]? = some 0), ⟨fs, 0, by walk_at "sub", hO, hf, hfs, by walk_at "om", by simp [val], hz0⟩, ?_, ?_⟩
    · intro s z l O
      refine BK2 fun K hK => ?_
      rintro hz ⟨gs, c, hs, hO, hg, hgs, hc, hv', hz1⟩
      have hsl : s < bs.length := by have := (List.getElem?_eq_some_iff.mp hz).1; rwa [dgs_len] at this
      have hy : bs[s]? = some bs[s] := List.getElem?_eq_getElem hsl
      rw [dgs_get hy] at hz; cases hz
      have hyl := lB _ (List.mem_of_getElem? hy)
      have hvs := val_take (B := 2 ^ w) hy
      generalize bs[s] = y at *
      have hgx : gs[t + s]? = some gs[t + s] := List.getElem?_eq_getElem (by lia         )
      have hgl := hgs _ (List.mem_of_getElem? hgx)
      generalize gs[t + s] = g at *
      have hlo : ListOf O 1 = some (dgs gs) := by rcases hO with rfl | rfl <;> rfl
      have hso : SeqOf O (.own 1) = some (dgs gs) := by rcases hO with rfl | rfl <;> rfl
      have hxy : x * y ≤ (2 ^ w - 1) * (2 ^ w - 1) := Nat.mul_le_mul (by lia         ) (by lia         )
      have hsum : c + (g + x * y) < 2 ^ w * 2 ^ w := by
        have : (2 ^ w - 1) * (2 ^ w - 1) + 2 * (2 ^ w - 1) + 1 = 2 ^ w * 2 ^ w := by
          obtain ⟨b, hb⟩ : ∃ b, 2 ^ w = b + 1 := ⟨2 ^ w - 1, by lia         ⟩
          rw [hb]; simp only [Nat.add_sub_cancel]; grind
        lia
      have e1 : (c : Int) + ((g : Int) + (x : Int) * y) = ((c + (g + x * y) : Nat) : Int) := by
        rw [Int.natCast_add, Int.natCast_add, Int.natCast_mul]
      refine WB_sub (sub_in (sub_in hs rfl) rfl) ?_
      walk_at "go"
      refine R_idx_dgs (k := t + s) hso (by walk_at "om") hgx (by lia         ) ?_
      walk_at "go"
      refine R_mulS (by walk_at "om") (by lia         ) ?_
      walk_at "go"
      rw [e1, mask_nat]
      refine R_set (k := t + s) hlo (by walk_at "om") (by rw [dgs_len]; lia         ) (by rw [dgs_len]; lia         ) ?_
      rw [dgs_set]
      walk_at "go"
      refine R_shr (by walk_at "om") ?_
      rw [shr_nat]
      walk_at "go"
      have h1 := val_set (B := 2 ^ w) (x := (c + (g + x * y)) % 2 ^ w) hgx
      have h2 := Nat.mod_add_div (c + (g + x * y)) (2 ^ w)
      refine ⟨gs.set (t + s) ((c + (g + x * y)) % 2 ^ w), (c + (g + x * y)) / 2 ^ w, by walk_at "sub", ?_, by rw [List.length_set, hg], ?_, Nat.div_lt_of_lt_mul hsum, ?_, ?_⟩
      · right; rcases hO with rfl | rfl <;> rfl
      · intro y hy
        rcases List.mem_or_eq_of_mem_set hy with hy | rfl
        · exact hgs y hy
        · exact Nat.mod_lt _ (by walk_at "om")
      · rw [hvs, show t + (s + 1) = (t + s) + 1 from rfl, Nat.pow_succ]
        rw [Nat.pow_add] at *
        generalize (c + (g + x * y)) % 2 ^ w = r at *
        generalize (c + (g + x * y)) / 2 ^ w = q at *
        grind
      · intro j hj hj'
        rw [List.getElem?_set_ne (by lia         )]
        exact hz1 j hj hj'
    · rintro l O ⟨gs, c, hs, hO, hg, hgs, hc, hv', hz1⟩
      rw [dgs_len] at hv'
      rw [List.take_length, vB] at hv'
      have hlo : ListOf O 1 = some (dgs gs) := by rcases hO with rfl | rfl <;> rfl
      refine N_next (WB_sub hs ?_)
      walk_at "go"
      refine R_len_dgs rfl (by walk_at "om") ?_
      walk_at "go"
      refine R_set (k := t + bs.length) hlo (by walk_at "om") (by rw [dgs_len]; lia         ) (by rw [dgs_len]; lia         ) ?_
      rw [dgs_set]
      walk_at "go"
      have h1 := val_set (B := 2 ^ w) (x := c) (hz1 (t + bs.length) (Nat.le_refl _) (by lia         ))
      refine ⟨gs.set (t + bs.length) c, by walk_at "sub", ?_, by rw [List.length_set, hg], ?_, ?_, ?_⟩
      · right; rcases hO with rfl | rfl <;> rfl
      · intro y hy
        rcases List.mem_or_eq_of_mem_set hy with hy | rfl
        · exact hgs y hy
        · exact hc
      · rw [hvt]; grind
      · intro j hj hj'
        rw [List.getElem?_set_ne (by lia         )]
        exact hz1 j (by lia         ) hj'
  · rintro l O ⟨fs, hs, hO, hf, hfs, hv, hz⟩
    rw [dgs_len, List.take_length, vA] at hv
    have hlo : ∃ o, O[1]? = some o ∧ NownO o ∧ SeqOf [o] (.own 0) = some (dgs fs) := by
      rcases hO with rfl | rfl
      · exact ⟨_, rfl, dgs_nown _, rfl⟩
      · exact ⟨_, rfl, dgs_nown _, rfl⟩
    obtain ⟨o, ho, hno, hso⟩ := hlo
    refine N_next (WB_sub hs ?_)
    walk_at "go"
    refine R_calO (c_normal d hw (av := .own 0) (ds := fs) hso (by simp [hno]) (by simp) (by lia         ) hfs) ho hno (by walk_at "nown") ?_
    rintro r rfl
    walk_at "go"
    exact ⟨_, _, .inl rfl, .same (num_nown _ _), by rw [hv]⟩
-- M18
theorem c_signed {C : Cx} (d : Nat) (w : Nat) (hw : 1 ≤ w) (b : Bool) (n : Nat) (hl : (dg (2 ^ w) n).length ≤ 1000) :
    WF C (d + 1) 14 [.bool b, num w n] (fun r => r = sg w (if b = true then -(n : Int) else n)) := by
  have hB := two_le_pow hw
  refine WF_intro (ns := ["is_below", "nat"]) (by decide +kernel) rfl (fun pm code doc vs h => by obtain ⟨a, b, rfl⟩ := len2 h; rfl) (by decide +kernel) (by decide +kernel) (by decide +kernel) (by decide +kernel) (by decide +kernel) (by decide +kernel) ?_
  intro L a cd
  refine BK fun K hK => ?_
  walk_at "go"
  refine ⟨fun hb => ?_, fun hb => ?_⟩
  · walk_at "go"
    refine R_len_dgs rfl (by walk_at "om") ?_
    walk_at "go"
    refine ⟨_, _, .inl rfl, .same (.tup (by walk_at "nown")), ?_⟩
    rw [← sgv_eq, hb, Bool.true_and]
    have : decide ((0 : Int) < (dg (2 ^ w) n).length) = decide (0 < n) := by
      rw [decide_eq_decide]
      constructor
      · intro h
        rcases Nat.eq_zero_or_pos n with q | q
        · subst q; rw [dg_zero] at h; simp at h
        · exact q
      · intro h; have := dg_len_pos hB (n := n) (by lia         ); lia
    rw [this]
  · walk_at "go"
    refine ⟨_, _, .inl rfl, .same (.tup (by walk_at "nown")), ?_⟩
    rw [← sgv_eq, hb, Bool.false_and]

noncomputable def Fits (w : Nat) (z : Int) : Prop := (dg (2 ^ w) z.natAbs).length ≤ 300
theorem sg_pos (w n : Nat) : sg w (n : Int) = .tup [.bool false, num w n] := by
  have := sgv_eq (w := w) false n
  rw [if_neg (by decide), Bool.false_and] at this
  exact this.symm

theorem c_s_neg {C : Cx} (d : Nat) (w : Nat) (hw : 1 ≤ w) (z : Int) (hz : Fits w z) : WF C (d + 2) 15 [sg w z] (fun r => r = sg w (-z)) := by
  refine WF_intro (ns := ["x"]) (by decide +kernel) rfl (fun pm code doc vs h => by obtain ⟨a, rfl⟩ := len1 h; rfl) (by decide +kernel) (by decide +kernel) (by decide +kernel) (by decide +kernel) (by decide +kernel) (by decide +kernel) ?_
  intro L a cd
  refine BK fun K hK => ?_
  walk_at "go"
  refine R_cal (c_signed d w hw _ _ (by unfold Fits at hz; walk_at "om")) (by walk_at "nown") ?_
  rintro r rfl
  walk_at "go"
  refine ⟨_, _, .inl rfl, .same (sg_nown _ _), congrArg _ ?_⟩
  by_cases h : z < 0
  · rw [decide_eq_true h, Bool.not_true, if_neg (by decide)]; lia
  · rw [decide_eq_false h, Bool.not_false, if_pos rfl]; lia

theorem c_s_sign {C : Cx} (d : Nat) (w : Nat) (hw : 1 ≤ w) (z : Int) (hz : Fits w z) : WF C (d + 1) 16 [sg w z] (fun r => r = .int (if z = 0 then 0 else if z < 0 then -1 else 1)) := by
  have hB := two_le_pow hw
  refine WF_intro (ns := ["x"]) (by decide +kernel) rfl (fun pm code doc vs h => by obtain ⟨a, rfl⟩ := len1 h; rfl) (by decide +kernel) (by decide +kernel) (by decide +kernel) (by decide +kernel) (by decide +kernel) (by decide +kernel) ?_
  intro L a cd
  refine BK fun K hK => ?_
  unfold Fits at hz
  walk_at "go"
  refine R_len_dgs rfl (by walk_at "om") ?_
  walk_at "go"
  refine ⟨fun h => ?_, fun h => ?_⟩
  · walk_at "go"
    refine ⟨_, _, .inl rfl, .same (.int _), congrArg _ ?_⟩
    have h1 : (dg (2 ^ w) z.natAbs).length = 0 := by have := beq_iff_eq.mp h; lia
    rw [if_pos]
    rcases Nat.eq_zero_or_pos z.natAbs with q | q
    · lia
    · have := dg_len_pos hB (n := z.natAbs) (by lia         ); lia
  · have h1 : z ≠ 0 := by
      intro q; subst q
      simp [dg_zero] at h
    walk_at "go"
    refine ⟨fun h => ?_, fun h => ?_⟩
    · walk_at "go"
      refine ⟨_, _, .inl rfl, .same (.int _), congrArg _ ?_⟩
      rw [if_neg h1, if_pos (of_decide_eq_true h)]
    · walk_at "go"
      refine ⟨_, _, .inl rfl, .same (.int _), congrArg _ ?_⟩
      rw [if_neg h1, if_neg (of_decide_eq_false h)]

theorem dg_len_add {B : Nat} (hB : 2 ≤ B) {m n k : Nat} (hm : (dg B m).length ≤ k) (hn : (dg B n).length ≤ k) : (dg B (m + n)).length ≤ k + 1 := by
  refine dg_len hB ?_
  have h1 := dg_lt_pow hB m
  have h2 := dg_lt_pow hB n
  have h3 : B ^ (dg B m).length ≤ B ^ k := Nat.pow_le_pow_right (by walk_at "om") hm
  have h4 : B ^ (dg B n).length ≤ B ^ k := Nat.pow_le_pow_right (by walk_at "om") hn
  have h5 : B ^ k * 2 ≤ B ^ k * B := Nat.mul_le_mul_left _ hB
  rw [Nat.pow_succ]
  lia

theorem c_s_add {C : Cx} (d : Nat) (w : Nat) (hw : 1 ≤ w) (hw' : w ≤ 30) (x y : Int) (hx : Fits w x) (hy : Fits w y) : WF C (d + 3) 17 [sg w x, sg w y, .int w] (fun r => r = sg w (x + y)) := by
  have hB := two_le_pow hw
  unfold Fits at hx hy
  refine WF_intro (ns := ["x", "y", "w"]) (by decide +kernel) rfl (fun pm code doc vs h => by obtain ⟨a, b, c, rfl⟩ := len3 h; rfl) (by decide +kernel) (by decide +kernel) (by decide +kernel) (by decide +kernel) (by decide +kernel) (by decide +kernel) ?_
  intro L a cd
  refine BK fun K hK => ?_
  have hsum : (dg (2 ^ w) (x.natAbs + y.natAbs)).length ≤ 1000 := by
    have := dg_len_add hB hx hy
    walk_at "om"
  walk_at "go"
  refine ⟨fun h => ?_, fun h => ?_⟩
  · have h1 : (x < 0) ↔ (y < 0) := by have := beq_iff_eq.mp h; exact decide_eq_decide.mp this
    walk_at "go"
    refine R_cal (c_add (d + 1) hw (by walk_at "om") (by walk_at "om") (by walk_at "om")) (by walk_at "nown") ?_
    rintro r rfl
    walk_at "go"
    refine R_cal (c_signed (d + 1) w hw _ _ (by walk_at "om")) (by walk_at "nown") ?_
    rintro r rfl
    walk_at "go"
    refine ⟨_, _, .inl rfl, .same (sg_nown _ _), congrArg _ ?_⟩
    by_cases h : x < 0
    · rw [decide_eq_true h, if_pos rfl]; lia
    · rw [decide_eq_false h, if_neg (by decide)]; lia
  · have h1 : ¬ ((x < 0) ↔ (y < 0)) := by
      intro q
      rw [show decide (x < 0) = decide (y < 0) from decide_eq_decide.mpr q] at h
      simp at h
    walk_at "go"
    refine R_cal (c_compare (d + 1) hw (by walk_at "om") (by walk_at "om")) (by walk_at "nown") ?_
    rintro r rfl
    walk_at "go"
    refine ⟨fun h => ?_, fun h => ?_⟩
    · have hlt : x.natAbs < y.natAbs := by
        have := of_decide_eq_true h
        unfold cmpI at this
        split at this
        · assumption
        · split at this <;> lia
      walk_at "go"
      refine R_cal (c_sub d hw (by walk_at "om") (by walk_at "om") (by lia         )) (by walk_at "nown") ?_
      rintro r rfl
      walk_at "go"
      refine R_cal (c_signed (d + 1) w hw _ _ (Nat.le_trans (dg_len_mono hB (Nat.sub_le _ _)) (by walk_at "om"))) (by walk_at "nown") ?_
      rintro r rfl
      walk_at "go"
      refine ⟨_, _, .inl rfl, .same (sg_nown _ _), congrArg _ ?_⟩
      by_cases h : y < 0
      · rw [decide_eq_true h, if_pos rfl]; lia
      · rw [decide_eq_false h, if_neg (by decide)]; lia
    · have hlt : ¬ x.natAbs < y.natAbs := by
        have := of_decide_eq_false h
        intro q
        unfold cmpI at this
        rw [if_pos q] at this
        lia
      walk_at "go"
      refine R_cal (c_sub d hw (by walk_at "om") (by walk_at "om") (by lia         )) (by walk_at "nown") ?_
      rintro r rfl
      walk_at "go"
      refine R_cal (c_signed (d + 1) w hw _ _ (Nat.le_trans (dg_len_mono hB (Nat.sub_le _ _)) (by walk_at "om"))) (by walk_at "nown") ?_
      rintro r rfl
      walk_at "go"
      refine ⟨_, _, .inl rfl, .same (sg_nown _ _), congrArg _ ?_⟩
      by_cases h : x < 0
      · rw [decide_eq_true h, if_pos rfl]; lia
      · rw [decide_eq_false h, if_neg (by decide)]; lia

theorem c_s_sub {C : Cx} (d : Nat) (w : Nat) (hw : 1 ≤ w) (hw' : w ≤ 30) (x y : Int) (hx : Fits w x) (hy : Fits w y) : WF C (d + 4) 18 [sg w x, sg w y, .int w] (fun r => r = sg w (x - y)) := by
  refine WF_intro (ns := ["x", "y", "w"]) (by decide +kernel) rfl (fun pm code doc vs h => by obtain ⟨a, b, c, rfl⟩ := len3 h; rfl) (by decide +kernel) (by decide +kernel) (by decide +kernel) (by decide +kernel) (by decide +kernel) (by decide +kernel) ?_
  intro L a cd
  refine BK fun K hK => ?_
  walk_at "go"
  refine R_cal (c_s_neg (d + 1) w hw y hy) (by walk_at "nown") ?_
  rintro r rfl
  walk_at "go"
  refine R_cal (c_s_add d w hw hw' x (-y) hx (by unfold Fits at *; rw [Int.natAbs_neg]; exact hy)) (by walk_at "nown") ?_
  rintro r rfl
  walk_at "go"
  exact ⟨_, _, .inl rfl, .same (sg_nown _ _), rfl⟩

theorem c_s_mul {C : Cx} (d : Nat) (w : Nat) (hw : 1 ≤ w) (hw' : w ≤ 30) (x y : Int) (hx : Fits w x) (hy : Fits w y) (hxy : Fits w (x * y)) : WF C (d + 3) 19 [sg w x, sg w y, .int w, .fn 37] (fun r => r = sg w (x * y)) := by
  unfold Fits at hx hy hxy
  rw [Int.natAbs_mul] at hxy
  refine WF_intro (ns := ["x", "y", "w", "mul"]) (by decide +kernel) rfl (fun pm code doc vs h => by obtain ⟨a, b, c, d, rfl⟩ := len4 h; rfl) (by decide +kernel) (by decide +kernel) (by decide +kernel) (by decide +kernel) (by decide +kernel) (by decide +kernel) ?_
  intro L a cd
  refine BK fun K hK => ?_
  walk_at "go"
  refine R_cal (c_mul d hw hw' (by walk_at "om") (by walk_at "om")) (by walk_at "nown") ?_
  rintro r rfl
  walk_at "go"
  refine R_cal (c_signed (d + 1) w hw _ _ (by walk_at "om")) (by walk_at "nown") ?_
  rintro r rfl
  walk_at "go"
  refine ⟨_, _, .inl rfl, .same (sg_nown _ _), congrArg _ ?_⟩
  rw [Int.natCast_mul]
  by_cases h1 : x < 0 <;> by_cases h2 : y < 0
  · rw [decide_eq_true h1, decide_eq_true h2, if_neg (by decide), show ((x.natAbs : Int)) = -x by lia         , show ((y.natAbs : Int)) = -y by lia         ]; grind
  · rw [decide_eq_true h1, decide_eq_false h2, if_pos (by decide), show ((x.natAbs : Int)) = -x by lia         , show ((y.natAbs : Int)) = y by lia         ]; grind
  · rw [decide_eq_false h1, decide_eq_true h2, if_pos (by decide), show ((x.natAbs : Int)) = x by lia         , show ((y.natAbs : Int)) = -y by lia         ]; grind
  · rw [decide_eq_false h1, decide_eq_false h2, if_neg (by decide), show ((x.natAbs : Int)) = x by lia         , show ((y.natAbs : Int)) = y by lia         ]
-- M19
theorem c_divrem_small {C : Cx} (d : Nat) {w m k : Nat} (hw : 1 ≤ w) (hw' : w ≤ 30) (hm : (dg (2 ^ w) m).length ≤ 500) (hk : 0 < k) (hkw : k < 2 ^ w) :
    WF C (d + 3) 38 [num w m, num w k, .int w] (fun r => r = .tup [num w (m / k), num w (m % k)]) := by
  have hB := two_le_pow hw
  refine WF_intro (ns := ["a", "b", "w"]) (by decide +kernel) rfl (fun pm code doc vs h => by obtain ⟨a, b, c, rfl⟩ := len3 h; rfl) (by decide +kernel) (by decide +kernel) (by decide +kernel) (by decide +kernel) (by decide +kernel) (by decide +kernel) ?_
  intro L a cd
  refine BK fun K hK => ?_
  have hd := dg_one hB hk hkw
  have nK : num w k = .list (dgs [k]) := by unfold num; rw [hd]
  have hmod : m % k < 2 ^ w := Nat.lt_trans (Nat.mod_lt _ hk) hkw
  walk_at "go"
  rw [nK]
  refine R_idx_dgs (k := 0) rfl rfl rfl (by simp) ?_
  walk_at "go"
  refine R_cal (c_divrem_limb d hw hw' hm hk hkw) (by walk_at "nown") ?_
  rintro r rfl
  walk_at "go"
  refine ⟨fun h => ?_, fun h => ?_⟩
  · have h1 : 0 < m % k := by first | exact om_dlt h | exact om_dle h | exact om_dp h | (have := of_decide_eq_true h; walk_at "om")
    walk_at "go"
    have e : num w (m % k) = .list [.int (m % k : Nat)] := by unfold num; rw [dg_one hB h1 hmod]; rfl
    refine ⟨_, .tup [num w (m / k), num w (m % k)], .inl rfl, .tup rfl ?_, rfl⟩
    intro i x y hx hy
    match i with
    | 0 => simp at hx hy; subst hx; subst hy; exact .same (num_nown _ _)
    | 1 => simp at hx hy; subst hx; subst hy; rw [e]; exact .lst rfl (Nat.zero_le _) (by walk_at "nown")
    | i + 2 => simp at hx
  · have h1 : m % k = 0 := by first | exact om_dnlt h | exact om_dnle h | exact om_dnp h | (have := of_decide_eq_false h; walk_at "om")
    walk_at "go"
    have e : num w (m % k) = .list [] := by unfold num; rw [h1, dg_zero]; rfl
    refine ⟨_, .tup [num w (m / k), num w (m % k)], .inl rfl, .tup rfl ?_, rfl⟩
    intro i x y hx hy
    match i with
    | 0 => simp at hx hy; subst hx; subst hy; exact .same (num_nown _ _)
    | 1 => simp at hx hy; subst hx; subst hy; rw [e]; exact .lst rfl (Nat.zero_le _) (by walk_at "nown")
    | i + 2 => simp at hx

theorem c_divrem {C : Cx} (d : Nat) {w m k : Nat} (hw : 1 ≤ w) (hw' : w ≤ 30) (hm : (dg (2 ^ w) m).length ≤ 500) (hk : 0 < k) (hkw : k < 2 ^ w) :
    WF C (d + 4) 43 [num w m, num w k, .int w] (fun r => r = .tup [num w (m / k), num w (m % k)]) := by
  have hB := two_le_pow hw
  refine WF_intro (ns := ["a", "b", "w"]) (by decide +kernel) rfl (fun pm code doc vs h => by obtain ⟨a, b, c, rfl⟩ := len3 h; rfl) (by decide +kernel) (by decide +kernel) (by decide +kernel) (by decide +kernel) (by decide +kernel) (by decide +kernel) ?_
  intro L a cd
  refine BK fun K hK => ?_
  have hd := dg_one hB hk hkw
  have hl : (dg (2 ^ w) k).length = 1 := by rw [hd]; rfl
  walk_at "go"
  refine R_len_dgs rfl (by lia         ) ?_
  walk_at "go"
  rw [hl]
  refine ⟨fun h => by simp at h, fun _ => ?_⟩
  walk_at "go"
  refine R_cal (c_compare (d + 2) hw (by walk_at "om") (by lia         )) (by walk_at "nown") ?_
  rintro r rfl
  walk_at "go"
  refine ⟨fun h => ?_, fun h => ?_⟩
  · have hlt : m < k := by
      have := of_decide_eq_true h
      unfold cmpI at this
      split at this
      · assumption
      · split at this <;> lia
    walk_at "go"
    refine ⟨none, none, rfl, rfl, ?_⟩
    refine ⟨_, _, _, _, (by intro zs; exact nofun), rfl, rfl, rfl, by rw [dgs_len]; walk_at "om", ?_⟩
    walk_at "go"
    refine ⟨_, .tup [num w (m / k), num w (m % k)], .inl rfl, .tup rfl ?_, rfl⟩
    intro i x y hx hy
    match i with
    | 0 => simp at hx hy; subst hx; subst hy; rw [Nat.div_eq_of_lt hlt]; exact .lst rfl (Nat.zero_le _) nall_nil
    | 1 => simp at hx hy; subst hx; subst hy; rw [Nat.mod_eq_of_lt hlt]; exact .same (num_nown _ _)
    | i + 2 => simp at hx
  · walk_at "go"
    refine R_len_dgs rfl (by lia         ) ?_
    walk_at "go"
    rw [hl]
    refine ⟨fun _ => ?_, fun h => by simp at h⟩
    walk_at "go"
    refine R_cal (c_divrem_small d hw hw' hm hk hkw) (by walk_at "nown") ?_
    rintro r rfl
    walk_at "go"
    exact ⟨_, _, .inl rfl, .same (.tup (by walk_at "nown")), rfl⟩

theorem c_tdiv {C : Cx} (d : Nat) (w : Nat) (hw : 1 ≤ w) (hw' : w ≤ 30) (x y : Int) (hx : Fits w x) (hy : y ≠ 0) (hy' : y.natAbs < 2 ^ w) : WF C (d + 5) 20 [sg w x, sg w y, .int w, .fn 43] (fun r => r = .tup [sg w (x.tdiv y), sg w (x.tmod y)]) := by
  have hB := two_le_pow hw
  unfold Fits at hx
  refine WF_intro (ns := ["x", "y", "w", "divrem"]) (by decide +kernel) rfl (fun pm code doc vs h => by obtain ⟨a, b, c, d, rfl⟩ := len4 h; rfl) (by decide +kernel) (by decide +kernel) (by decide +kernel) (by decide +kernel) (by decide +kernel) (by decide +kernel) ?_
  intro L a cd
  refine BK fun K hK => ?_
  have hl : (dg (2 ^ w) y.natAbs).length = 1 := by rw [dg_one hB (by lia         ) hy']; rfl
  walk_at "go"
  refine R_len_dgs rfl (by lia         ) ?_
  walk_at "go"
  rw [hl]
  refine ⟨fun h => by simp at h, fun _ => ?_⟩
  walk_at "go"
  refine R_cal (c_divrem d hw hw' (by walk_at "om") (by lia         ) hy') (by walk_at "nown") ?_
  rintro r rfl
  walk_at "go"
  refine R_cal (c_signed (d + 3) w hw _ _ (Nat.le_trans (dg_len_mono hB (Nat.div_le_self _ _)) (by walk_at "om"))) (by walk_at "nown") ?_
  rintro r rfl
  walk_at "go"
  refine R_cal (c_signed (d + 3) w hw _ _ (Nat.le_trans (dg_len_mono hB (Nat.mod_le _ _)) (by walk_at "om"))) (by walk_at "nown") ?_
  rintro r rfl
  walk_at "go"
  have e1 : (if ((decide (x < 0) != decide (y < 0)) = true) then -((x.natAbs / y.natAbs : Nat) : Int) else (x.natAbs / y.natAbs : Nat)) = x.tdiv y := by
    rcases Int.natAbs_eq x with h1 | h1 <;> rcases Int.natAbs_eq y with h2 | h2
    · rw [decide_eq_false (show ¬ x < 0 by lia         ), decide_eq_false (show ¬ y < 0 by lia         ), if_neg (by decide)]
      conv => rhs; rw [h1, h2]
      rfl
    · rw [decide_eq_false (show ¬ x < 0 by lia         ), decide_eq_true (show y < 0 by lia         ), if_pos (by decide)]
      conv => rhs; rw [h1, h2, Int.tdiv_neg]
      rfl
    · by_cases hx0 : x < 0
      · rw [decide_eq_true hx0, decide_eq_false (show ¬ y < 0 by lia         ), if_pos (by decide)]
        conv => rhs; rw [h1, h2, Int.neg_tdiv]
        rfl
      · have : x = 0 := by lia
        subst this; simp
    · by_cases hx0 : x < 0
      · rw [decide_eq_true hx0, decide_eq_true (show y < 0 by lia         ), if_neg (by decide)]
        conv => rhs; rw [h1, h2, Int.neg_tdiv, Int.tdiv_neg, Int.neg_neg]
        rfl
      · have : x = 0 := by lia
        subst this; simp
  have e2 : (if (decide (x < 0) = true) then -((x.natAbs % y.natAbs : Nat) : Int) else (x.natAbs % y.natAbs : Nat)) = x.tmod y := by
    have h := Int.tmod_add_mul_tdiv x y
    by_cases hx0 : x < 0
    · rw [decide_eq_true hx0, if_pos rfl]
      have h1 : x = -(x.natAbs : Int) := by lia
      conv => rhs; rw [h1, Int.neg_tmod]
      rcases Int.natAbs_eq y with h2 | h2
      · rw [h2]; rfl
      · conv => rhs; rw [h2, Int.tmod_neg]
        rfl
    · rw [decide_eq_false hx0, if_neg (by decide)]
      have h1 : x = (x.natAbs : Int) := by lia
      conv => rhs; rw [h1]
      rcases Int.natAbs_eq y with h2 | h2
      · rw [h2]; rfl
      · conv => rhs; rw [h2, Int.tmod_neg]
        rfl
  rw [e1, e2]
  exact ⟨_, _, .inl rfl, .same (.tup (by walk_at "nown")), rfl⟩

theorem c_exact {C : Cx} (d : Nat) (w : Nat) (hw : 1 ≤ w) (hw' : w ≤ 30) (x y : Int) (hx : Fits w x) (hy : y ≠ 0) (hy' : y.natAbs < 2 ^ w) : WF C (d + 6) 24 [sg w x, sg w y, .int w, .fn 43] (fun r => r = sg w (x.tdiv y)) := by
  refine WF_intro (ns := ["x", "y", "w", "divrem"]) (by decide +kernel) rfl (fun pm code doc vs h => by obtain ⟨a, b, c, d, rfl⟩ := len4 h; rfl) (by decide +kernel) (by decide +kernel) (by decide +kernel) (by decide +kernel) (by decide +kernel) (by decide +kernel) ?_
  intro L a cd
  refine BK fun K hK => ?_
  walk_at "go"
  refine R_cal (c_tdiv d w hw hw' x y hx hy hy') (by walk_at "nown") ?_
  rintro r rfl
  walk_at "go"
  exact ⟨_, _, .inl rfl, .same (sg_nown _ _), rfl⟩
-- M20
noncomputable def sgs (w : Nat) (xs : List Int) : List AV := xs.map (sg w)
theorem sgs_nown (w : Nat) (xs : List Int) : ∀ x ∈ sgs w xs, Nown x := by
  intro x hx
  obtain ⟨z, _, rfl⟩ := List.mem_map.mp hx
  exact sg_nown _ _
theorem sgs_len (w : Nat) (xs : List Int) : (sgs w xs).length = xs.length := by simp [sgs]
theorem sgs_get {w : Nat} {xs : List Int} {i : Nat} {x : Int} (h : xs[i]? = some x) : (sgs w xs)[i]? = some (sg w x) := by simp [sgs, h]
noncomputable def smallI (z : Int) : Bool := decide (z.natAbs < 2 ^ 28)
theorem fits_of {w : Nat} {z : Int} (hw : 1 ≤ w) (h : z.natAbs < 2 ^ 64) : Fits w z := by
  refine dg_len (two_le_pow hw) (Nat.lt_of_lt_of_le h ?_)
  calc 2 ^ 64 ≤ (2 ^ w) ^ 64 := Nat.pow_le_pow_left (two_le_pow hw) 64
    _ ≤ (2 ^ w) ^ 300 := Nat.pow_le_pow_right (by have := two_le_pow hw; walk_at "om") (by lia         )
theorem mul_small {x y : Int} (hx : x.natAbs < 2 ^ 28) (hy : y.natAbs < 2 ^ 28) : (x * y).natAbs < 2 ^ 56 := by
  rw [Int.natAbs_mul]
  have : x.natAbs * y.natAbs ≤ (2 ^ 28 - 1) * (2 ^ 28 - 1) := Nat.mul_le_mul (by lia         ) (by lia         )
  walk_at "om"
/-- one row cleared by another -/
noncomputable def clr (row head : List Int) (p o before : Int) : List Int := (row.zip head).map fun e => (e.1 * p - o * e.2).tdiv before

theorem c_cleared {C : Cx} (d : Nat) (w : Nat) (hw : 4 ≤ w) (hw' : w ≤ 30) (row head : List Int) (col : Nat) (p o before : Int) (hl : row.length = head.length) (hl' : row.length ≤ 100) (h1 : row.all smallI = true) (h2 : head.all smallI = true)
    (hp : head[col]? = some p) (ho : row[col]? = some o) (hb : before ≠ 0) (hb' : before.natAbs < 16) :
    WF C (d + 7) 26 [.list (sgs w row), .list (sgs w head), .int col, sg w before, .int w, .fn 37, .fn 43] (fun r => r = .list (sgs w (clr row head p o before))) := by
  have hw1 : 1 ≤ w := by walk_at "om"
  have h16 : 16 ≤ 2 ^ w := Nat.pow_le_pow_right (n := 2) (by decide) hw
  have s1 : ∀ {i : Nat} {x : Int}, row[i]? = some x → x.natAbs < 2 ^ 28 := fun h => of_decide_eq_true (List.all_eq_true.mp h1 _ (List.mem_of_getElem? h))
  have s2 : ∀ {i : Nat} {x : Int}, head[i]? = some x → x.natAbs < 2 ^ 28 := fun h => of_decide_eq_true (List.all_eq_true.mp h2 _ (List.mem_of_getElem? h))
  have hcol : col < row.length := (List.getElem?_eq_some_iff.mp ho).1
  refine WF_intro (ns := ["row", "head", "column", "before", "w", "mul", "divrem"]) (by decide +kernel) rfl (fun pm code doc vs h => by obtain ⟨a, b, c, d, e, f, g, rfl⟩ := len7 h; rfl) (by decide +kernel) (by decide +kernel) (by decide +kernel) (by decide +kernel) (by decide +kernel) (by decide +kernel) ?_
  intro L a cd
  refine BK fun K hK => ?_
  walk_at "go"
  refine R_idx (k := col) rfl rfl (sgs_get hp) (by walk_at "om") ?_
  walk_at "go"
  refine R_idx (k := col) rfl rfl (sgs_get ho) (by walk_at "om") ?_
  walk_at "go"
  refine S_ForE rfl (by rfl) (.inl (by rfl)) (.inl (by rfl)) ?_
  walk_at "go"
  refine ⟨_, rfl, fun t l O => Sub l [("row", .list (sgs w row)), ("head", .list (sgs w head)), ("before", sg w before), ("w", .int w), ("mul", .fn 37), ("divrem", .fn 43), ("pivot", sg w p), ("own", sg w o), ("found", .own 0)] ∧
    O = [.lst (sgs w (clr (row.take t) (head.take t) p o before))], ⟨by walk_at "sub", rfl⟩, ?_, ?_⟩
  · intro t z l O
    refine BK2 fun K hK => ?_
    rintro hz ⟨hs, rfl⟩
    have ht : t < row.length := by have := (List.getElem?_eq_some_iff.mp hz).1; rwa [sgs_len] at this
    have hx : row[t]? = some row[t] := List.getElem?_eq_getElem ht
    have hy : head[t]? = some head[t] := List.getElem?_eq_getElem (by walk_at "om")
    rw [sgs_get hx] at hz; cases hz
    generalize row[t] = x at *
    generalize head[t] = y at *
    have m1 := mul_small (s1 hx) (s2 hp)
    have m2 := mul_small (s1 ho) (s2 hy)
    have f : ∀ {z : Int}, z.natAbs < 2 ^ 64 → Fits w z := fun h => fits_of hw1 h
    have g1 := s1 hx
    have g2 := s2 hp
    have g3 := s1 ho
    have g4 := s2 hy
    refine WB_sub (sub_in (sub_in hs rfl) rfl) ?_
    walk_at "go"
    refine R_cal (c_s_mul (d + 3) w hw1 hw' x p (f (by walk_at "om")) (f (by walk_at "om")) (f (by walk_at "om"))) (by walk_at "nown") ?_
    rintro r rfl
    walk_at "go"
    refine R_idx (k := t) rfl rfl (sgs_get hy) (by walk_at "om") ?_
    walk_at "go"
    refine R_cal (c_s_mul (d + 3) w hw1 hw' o y (f (by walk_at "om")) (f (by walk_at "om")) (f (by walk_at "om"))) (by walk_at "nown") ?_
    rintro r rfl
    walk_at "go"
    refine R_cal (c_s_sub (d + 2) w hw1 hw' (x * p) (o * y) (f (by walk_at "om")) (f (by walk_at "om"))) (by walk_at "nown") ?_
    rintro r rfl
    walk_at "go"
    refine R_cal (c_exact d w hw1 hw' (x * p - o * y) before (f (by walk_at "om")) hb (by walk_at "om")) (by walk_at "nown") ?_
    rintro r rfl
    walk_at "go"
    refine R_app2 rfl (by rw [sgs_len]; simp [clr]; walk_at "om") ?_
    walk_at "go"
    refine ⟨by walk_at "sub", ?_⟩
    rw [take_snoc hx, take_snoc hy]
    simp only [clr, sgs]
    rw [List.zip_append (by rw [List.length_take, List.length_take, hl])]
    simp
  · rintro l O ⟨hs, rfl⟩
    refine N_next (WB_sub hs ?_)
    walk_at "go"
    refine ⟨_, _, .inl rfl, .lst rfl (Nat.zero_le _) (sgs_nown _ _), ?_⟩
    rw [sgs_len, List.take_length, hl, List.take_length]

noncomputable def mat (w : Nat) (rows : List (List Int)) : List AV := rows.map fun r => .list (sgs w r)
theorem mat_nown (w : Nat) (rows : List (List Int)) : ∀ x ∈ mat w rows, Nown x := by
  intro x hx
  obtain ⟨z, _, rfl⟩ := List.mem_map.mp hx
  exact .list (sgs_nown _ _)
theorem mat_len (w : Nat) (rows : List (List Int)) : (mat w rows).length = rows.length := by simp [mat]
theorem mat_get {w : Nat} {rows : List (List Int)} {i : Nat} {r : List Int} (h : rows[i]? = some r) : (mat w rows)[i]? = some (.list (sgs w r)) := by simp [mat, h]
noncomputable def entry (rows : List (List Int)) (i j : Nat) : Int := ((rows[i]?.bind (·[j]?)).getD 0)
/-- the first row from at on with no nought in the column -/
noncomputable def pivAt (rows : List (List Int)) (col : Nat) : Nat → Nat → Int
  | 0, _ => -1
  | k + 1, at_ => if entry rows at_ col ≠ 0 then at_ else pivAt rows col k (at_ + 1)

theorem c_pivot_row {C : Cx} (d : Nat) (w : Nat) (hw : 1 ≤ w) (rows : List (List Int)) (top col : Nat) (o : AO) (ho : SeqOf [o] (.own 0) = some (mat w rows)) (hno : NownO o) (hl : rows.length ≤ 100) (hc : ∀ r ∈ rows, col < r.length ∧ r.length ≤ 100) (hs : ∀ r ∈ rows, r.all smallI = true) (htop : top ≤ rows.length) :
    WFo C (d + 2) 25 [.own 0, .int top, .int col] [o] (fun r O' => r = .int (pivAt rows col (rows.length - top) top) ∧ O' = [o]) := by
  refine WFo_intro (ns := ["rows", "top", "column"]) (by decide +kernel) rfl (fun pm code doc vs h => by obtain ⟨a, b, c, rfl⟩ := len3 h; rfl) (by decide +kernel) (by decide +kernel) (by decide +kernel) (by decide +kernel) (by decide +kernel) (by decide +kernel) ?_
  intro L a cd
  refine BK fun K hK => ?_
  walk_at "s"
  refine S_ForR (.inl (by rfl)) ?_
  walk_at "go"
  refine R_len ho (by rw [mat_len]; walk_at "om") ?_
  rw [mat_len]
  refine R_rng2 rfl rfl (by walk_at "om") (by walk_at "om") ?_
  refine ⟨_, _, _, rfl, fun t l O => Sub l [("rows", .own 0), ("top", .int top), ("column", .int col)] ∧ O = [o] ∧ pivAt rows col (rows.length - top) top = pivAt rows col (rows.length - (top + t)) (top + t), ⟨by walk_at "sub", rfl, rfl⟩, ?_, ?_⟩
  · intro t k l O
    refine BK3 fun K hK => ?_
    rintro ht rfl ⟨hsub, rfl, hp⟩
    have hr : rows[top + t]? = some rows[top + t] := List.getElem?_eq_getElem (by walk_at "om")
    generalize rows[top + t] = r at *
    have hm := List.mem_of_getElem? hr
    obtain ⟨hc1, hc2⟩ := hc r hm
    have hx : r[col]? = some r[col] := List.getElem?_eq_getElem hc1
    generalize r[col] = x at *
    have hxs : x.natAbs < 2 ^ 28 := of_decide_eq_true (List.all_eq_true.mp (hs r hm) _ (List.mem_of_getElem? hx))
    have he : entry rows (top + t) col = x := by unfold entry; rw [hr]; show (r[col]?).getD 0 = x; rw [hx]; rfl
    have hpv : pivAt rows col (rows.length - (top + t)) (top + t) = if x ≠ 0 then ((top + t : Nat) : Int) else pivAt rows col (rows.length - (top + (t + 1))) (top + (t + 1)) := by
      rw [show rows.length - (top + t) = (rows.length - (top + (t + 1))) + 1 by walk_at "om", pivAt, he]; rfl
    refine WB_sub (sub_in hsub rfl) ?_
    walk_at "go"
    refine R_idx (k := top + t) ho (by walk_at "om") (mat_get hr) (by lia         ) ?_
    walk_at "go"
    refine R_idx (k := col) rfl rfl (sgs_get hx) (by walk_at "om") ?_
    walk_at "go"
    refine R_cal (c_s_sign d w hw x (fits_of hw (by walk_at "om"))) (by walk_at "nown") ?_
    rintro r' rfl
    walk_at "go"
    refine ⟨fun h => ?_, fun h => ?_⟩
    · have hx0 : x ≠ 0 := by
        intro q; subst q; simp at h
      walk_at "go"
      refine ⟨_, _, .inl rfl, .same (.int _), by intro o' ho'; rw [List.mem_singleton.mp ho']; exact hno, by simp, congrArg _ ?_, rfl⟩
      rw [hp, hpv, if_pos hx0]; walk_at "om"
    · have hx0 : x = 0 := by
        by_cases q : x = 0
        · exact q
        · rw [if_neg q] at h
          by_cases q' : x < 0
          · rw [if_pos q'] at h; simp at h
          · rw [if_neg q'] at h; simp at h
      walk_at "go"
      refine ⟨by walk_at "sub", rfl, ?_⟩
      rw [hp, hpv, if_neg (by simp [hx0])]
  · rintro l O ⟨hsub, rfl, hp⟩
    refine N_next (WB_sub hsub ?_)
    walk_at "go"
    refine ⟨_, _, .inl rfl, .same (.int _), by intro o' ho'; rw [List.mem_singleton.mp ho']; exact hno, by simp, congrArg _ ?_, rfl⟩
    rw [hp, show rows.length - (top + (rows.length - top)) = 0 by lia         ]; rfl
-- M21a
section
variable {C : Cx} {d : Nat} {env : Env} {l : List (Str × AV)} {Os : List AO}
/-- a new list that nothing changes -/
theorem E_LstF {elts : List Expr} {pos : Pos} {Q : AV → List (Str × AV) → List AO → Prop} (ha : WA C d env elts pos l Os (fun as l1 O1 => as.length ≤ 100 ∧ Q (.list as) l1 O1)) : WE C d env (.List elts pos) l Os Q := fun p => by
  show Wi C d env p RV (standAt pos >>= fun _ => spliced (backTo pos (starEach elts env)) >>= fun vs => newList vs) l Os Q
  refine Wi.standAt fun X β h H => ?_
  refine Wp.bind ((ha p X β h H).mono fun vs h' ⟨β', as, l1, O1, g1, g2, g3, g4, g5, g6⟩ => ?_)
  intro A tk r
  refine wpAny_newList ?_ (by rw [g4.1]; exact Nat.le_trans g5 (by decide +kernel))
  refine ⟨_, _, rfl, β', .list as, l1, O1, g1.keeps (push_get _), fun b o e hb => push_get _ _ _ (g2 b o e hb), g3, ?_, g6⟩
  exact .list g1.freshSize ⟨_, Heap.get?_push_size _ rfl, rfl, 0, rfl⟩ g4.1 fun i v x ev ex => (g4.2 i v x ev ex).stable (fun b o _ e => push_get _ _ _ e) (fun b o hb _ => hb) fun _ _ e => e

/-- a for, turn by turn -/
noncomputable def Unroll (C : Cx) (d : Nat) (env : Env) (tg : Expr) (b : List Stmt) (Q : AF → List (Str × AV) → List AO → Prop) : List AV → List (Str × AV) → List AO → Prop
  | [], l, O => Q .next l O
  | y :: rest, l, O => WG C d env tg y l O (fun l2 O2 => WB C d env b l2 O2 (Lp (Unroll C d env tg b Q rest) (fun l O => Q .next l O) Q))
theorem U_nil {tg : Expr} {b : List Stmt} {Q : AF → List (Str × AV) → List AO → Prop} (h : Q .next l Os) : Unroll C d env tg b Q [] l Os := h
theorem U_cons {tg : Expr} {b : List Stmt} {Q : AF → List (Str × AV) → List AO → Prop} {y : AV} {rest : List AV} (h : WG C d env tg y l Os (fun l2 O2 => WB C d env b l2 O2 (Lp (Unroll C d env tg b Q rest) (fun l O => Q .next l O) Q))) : Unroll C d env tg b Q (y :: rest) l Os := h
theorem S_ForU {tg iter : Expr} {b : List Stmt} {pos : Pos} {Q : AF → List (Str × AV) → List AO → Prop} (hi : WE C d env iter l Os (fun a l1 O1 => ∃ items, Iters C env tg a items ∧ Unroll C d env tg b Q items l1 O1))
    (hs : ∀ x, foldedSetIterable iter env x = pure x := by intro _; rfl) : WS C d env (.For tg iter b [] pos) l Os Q := by
  refine S_For (fun p => (hi p).mono fun a l1 O1 ⟨items, hit, hu⟩ => ?_) hs
  refine ⟨items, hit, fun done l O => Unroll C d env tg b Q (items.drop done.length) l O, hu, fun done y rest l2 O2 e hI => ?_, fun l2 O2 hI => ?_⟩
  · have h1 : items.drop done.length = y :: rest := by rw [e]; simp
    have h2 : items.drop (done ++ [y]).length = rest := by rw [e]; simp
    have hI : Unroll C d env tg b Q (items.drop done.length) l2 O2 := hI
    rw [h1] at hI
    refine fun p v hv => (hI p v hv).mono fun _ l3 O3 h3 => WB_mono h3 fun f l4 O4 h4 => ?_
    cases f with
    | next => show Unroll C d env tg b Q (items.drop (done ++ [y]).length) l4 O4; rw [h2]; exact h4
    | cont => show Unroll C d env tg b Q (items.drop (done ++ [y]).length) l4 O4; rw [h2]; exact h4
    | brk => exact h4
    | ret v => exact h4
  · have : Unroll C d env tg b Q (items.drop items.length) l2 O2 := hI
    rw [List.drop_length] at this; exact this
theorem brT {c : Bool} {A B : Prop} (h : c = true) (ha : A) : (c = true → A) ∧ (c = false → B) := ⟨fun _ => ha, fun q => absurd (h.symm.trans q) (by decide)⟩
theorem brF {c : Bool} {A B : Prop} (h : c = false) (hb : B) : (c = true → A) ∧ (c = false → B) := ⟨fun q => absurd (h.symm.trans q) (by decide), fun _ => hb⟩
end
-- M21
theorem c_nat_of {C : Cx} (d : Nat) {w n : Nat} (hw : 1 ≤ w) (hw' : w ≤ 30) (hl : (dg (2 ^ w) n).length ≤ 500) :
    WF C (d + 1) 5 [.int n, .int w] (fun r => r = num w n) := by
  have hB := two_le_pow hw
  refine WF_intro (ns := ["number", "w"]) (by decide +kernel) rfl (fun pm code doc vs h => by obtain ⟨a, b, rfl⟩ := len2 h; rfl) (by decide +kernel) (by decide +kernel) (by decide +kernel) (by decide +kernel) (by decide +kernel) (by decide +kernel) ?_
  intro L a cd
  refine BK fun K hK => ?_
  walk_at "go"
  refine brF (decide_eq_false (by lia         )) ?_
  walk_at "go"
  refine R_shl (by walk_at "om") ?_
  walk_at "go"
  refine S_WhileJ (fun q l O => ∃ fs, Sub l [("number", .int q), ("w", .int w), ("found", .own 0), ("mask", .int (msk w))] ∧ O = [.lst (dgs fs)] ∧ fs ++ dg (2 ^ w) q = dg (2 ^ w) n)
    (fun l O => Sub l [("found", .own 0)] ∧ O = [.lst (dgs (dg (2 ^ w) n))]) n ⟨[], by walk_at "sub", rfl, rfl⟩ ?_ ?_
  · intro q l O
    refine TK1 fun K hK => ?_
    rintro ⟨fs, hs, rfl, hv⟩
    refine WT_sub hs ?_
    walk_at "go"
    refine ⟨fun h => ?_, fun h => ?_⟩
    · have hq : 0 < q := by first | exact om_dlt h | exact om_dle h | exact om_dp h | (have := of_decide_eq_true h; walk_at "om")
      have hv' := hv
      rw [dg_pos hB (by lia         )] at hv'
      walk_at "go"
      rw [mask_nat]
      refine R_app2 rfl (by rw [dgs_len]; have := congrArg List.length hv; rw [List.length_append] at this; lia         ) ?_
      rw [dgs_snoc]
      walk_at "go"
      refine R_shr (by walk_at "om") ?_
      rw [shr_nat]
      walk_at "go"
      exact ⟨q / 2 ^ w, Nat.div_lt_self hq hB, _, by walk_at "sub", rfl, by rw [List.append_assoc]; exact hv'⟩
    · have hq : q = 0 := by first | exact om_dnlt h | exact om_dnle h | exact om_dnp h | (have := of_decide_eq_false h; walk_at "om")
      subst hq
      rw [dg_zero, List.append_nil] at hv
      exact ⟨by walk_at "sub", by rw [hv]⟩
  · rintro l O ⟨hs, rfl⟩
    refine N_next (WB_sub hs ?_)
    walk_at "go"
    exact ⟨_, _, .inl rfl, .lst rfl (Nat.zero_le _) (dgs_nown _), rfl⟩

theorem c_limbs {C : Cx} (d : Nat) {w n : Nat} (hw : 1 ≤ w) (hw' : w ≤ 8) (hl : (dg (2 ^ w) n).length ≤ 500) :
    WF C (d + 1) 46 [.int n, .int w] (fun r => r = num w n) := by
  have hB := two_le_pow hw
  have hB' : 2 ^ w ≤ 2 ^ 8 := Nat.pow_le_pow_right (by lia         ) hw'
  have hpw : (2 : Int) ^ ((w : Int)).toNat = ((2 ^ w : Nat) : Int) := by rw [Int.toNat_natCast]; simp
  refine WF_intro (ns := ["number", "w"]) (by decide +kernel) rfl (fun pm code doc vs h => by obtain ⟨a, b, rfl⟩ := len2 h; rfl) (by decide +kernel) (by decide +kernel) (by decide +kernel) (by decide +kernel) (by decide +kernel) (by decide +kernel) ?_
  intro L a cd
  refine BK fun K hK => ?_
  have hbits : (0 : Int) ≤ (w : Int) ∧ (Builtin.Int.intBits 2 : Int) * (w : Int) ≤ 2 ^ 27 := by
    have : Builtin.Int.intBits 2 = 2 := by decide +kernel
    rw [this]; lia
  walk_at "go"
  refine S_WhileJ (fun q l O => ∃ fs, Sub l [("number", .int q), ("w", .int w), ("found", .own 0)] ∧ O = [.lst (dgs fs)] ∧ fs ++ dg (2 ^ w) q = dg (2 ^ w) n)
    (fun l O => Sub l [("found", .own 0)] ∧ O = [.lst (dgs (dg (2 ^ w) n))]) n ⟨[], by walk_at "sub", rfl, rfl⟩ ?_ ?_
  · intro q l O
    refine TK1 fun K hK => ?_
    rintro ⟨fs, hs, rfl, hv⟩
    refine WT_sub hs ?_
    walk_at "go"
    refine ⟨fun h => ?_, fun h => ?_⟩
    · have hq : 0 < q := by first | exact om_dlt h | exact om_dle h | exact om_dp h | (have := of_decide_eq_true h; walk_at "om")
      have hv' := hv
      rw [dg_pos hB (by lia         )] at hv'
      walk_at "go"
      refine R_pow hbits ?_
      rw [hpw]
      refine R_mod (by lia         ) ?_
      rw [fmod_nat]
      walk_at "go"
      refine R_app2 rfl (by rw [dgs_len]; have := congrArg List.length hv; rw [List.length_append] at this; lia         ) ?_
      rw [dgs_snoc]
      walk_at "go"
      refine R_pow hbits ?_
      rw [hpw]
      refine R_div' (by lia         ) (by lia         ) ?_
      rw [fdiv_nat]
      walk_at "go"
      exact ⟨q / 2 ^ w, Nat.div_lt_self hq hB, _, by walk_at "sub", rfl, by rw [List.append_assoc]; exact hv'⟩
    · have hq : q = 0 := by first | exact om_dnlt h | exact om_dnle h | exact om_dnp h | (have := of_decide_eq_false h; walk_at "om")
      subst hq
      rw [dg_zero, List.append_nil] at hv
      exact ⟨by walk_at "sub", by rw [hv]⟩
  · rintro l O ⟨hs, rfl⟩
    refine N_next (WB_sub hs ?_)
    walk_at "go"
    exact ⟨_, _, .inl rfl, .lst rfl (Nat.zero_le _) (dgs_nown _), rfl⟩

noncomputable def feM : Nat → Nat → Nat → Nat
  | 0, _, _ => 0
  | f + 1, n, p => if n = 0 then 0 else n / p + feM f (n / p) p
theorem feM_ge {f g n p : Nat} (hp : 2 ≤ p) (h : n ≤ f) (h' : n ≤ g) : feM f n p = feM g n p := by
  induction f generalizing g n with
  | zero =>
    have : n = 0 := by lia
    subst this; cases g <;> rfl
  | succ f ih =>
    cases g with
    | zero =>
      have : n = 0 := by lia
      subst this; rfl
    | succ g =>
      simp only [feM]
      by_cases hn : n = 0
      · rw [if_pos hn, if_pos hn]
      · have : n / p < n := Nat.div_lt_self (by lia         ) hp
        rw [if_neg hn, if_neg hn, ih (g := g) (n := n / p) (by lia         ) (by lia         )]
theorem feM_pos {n p : Nat} (hp : 2 ≤ p) (hn : n ≠ 0) : feM n n p = n / p + feM (n / p) (n / p) p := by
  obtain ⟨m, rfl⟩ : ∃ m, n = m + 1 := ⟨n - 1, by walk_at "om"⟩
  have : (m + 1) / p < m + 1 := Nat.div_lt_self (by lia         ) hp
  rw [feM, if_neg hn, feM_ge hp (f := m) (g := (m + 1) / p) (by lia         ) (Nat.le_refl _)]

theorem c_fe {C : Cx} (d : Nat) {n p : Nat} (hp : 2 ≤ p) (hp' : p ≤ 1000) : WF C (d + 1) 34 [.int n, .int p] (fun r => r = .int (feM n n p : Nat)) := by
  refine WF_intro (ns := ["n", "prime"]) (by decide +kernel) rfl (fun pm code doc vs h => by obtain ⟨a, b, rfl⟩ := len2 h; rfl) (by decide +kernel) (by decide +kernel) (by decide +kernel) (by decide +kernel) (by decide +kernel) (by decide +kernel) ?_
  intro L a cd
  refine BK fun K hK => ?_
  walk_at "go"
  refine S_WhileJ (fun q l O => ∃ f : Nat, Sub l [("n", .int q), ("prime", .int p), ("found", .int f)] ∧ O = [] ∧ f + feM q q p = feM n n p)
    (fun l O => Sub l [("found", .int (feM n n p : Nat))] ∧ O = []) n ⟨0, by walk_at "sub", rfl, by lia         ⟩ ?_ ?_
  · intro q l O
    refine TK1 fun K hK => ?_
    rintro ⟨f, hs, rfl, hv⟩
    refine WT_sub hs ?_
    walk_at "go"
    refine ⟨fun h => ?_, fun h => ?_⟩
    · have hq : 0 < q := by first | exact om_dlt h | exact om_dle h | exact om_dp h | (have := of_decide_eq_true h; walk_at "om")
      rw [feM_pos hp (by lia         )] at hv
      walk_at "go"
      refine R_div' (by lia         ) (by lia         ) ?_
      rw [fdiv_nat]
      walk_at "go"
      refine ⟨q / p, Nat.div_lt_self hq hp, f + q / p, ?_, rfl, by lia         ⟩
      rw [show ((f + q / p : Nat) : Int) = (f : Int) + (q / p : Nat) by lia         ]
      walk_at "sub"
    · have hq : q = 0 := by first | exact om_dnlt h | exact om_dnle h | exact om_dnp h | (have := of_decide_eq_false h; walk_at "om")
      subst hq
      have : f = feM n n p := by rw [← hv]; rfl
      exact ⟨by rw [← this]; walk_at "sub", rfl⟩
  · rintro l O ⟨hs, rfl⟩
    refine N_next (WB_sub hs ?_)
    walk_at "go"
    exact ⟨_, _, .inl rfl, .same (.int _), rfl⟩

theorem c_need {C : Cx} (d : Nat) (n : Nat) : WF C (d + 1) 31 [.int n] (fun r => r = .none) := by
  refine WF_intro (ns := ["n"]) (by decide +kernel) rfl (fun pm code doc vs h => by obtain ⟨a, rfl⟩ := len1 h; rfl) (by decide +kernel) (by decide +kernel) (by decide +kernel) (by decide +kernel) (by decide +kernel) (by decide +kernel) ?_
  intro L a cd
  refine BK fun K hK => ?_
  walk_at "go"
  refine brF (decide_eq_false (by lia         )) ?_
  walk_at "go"
  exact ⟨_, _, .inr ⟨rfl, rfl⟩, .same .none, rfl⟩
-- M22a
section
variable {C : Cx} {d : Nat} {env : Env} {l : List (Str × AV)} {Os : List AO}
theorem R_repC {j : Nat} {x : AV} {n : Int} {K : AV → List AO → Prop} (h : Os[j]? = some (.lst [x])) (hk : (decide (0 ≤ n) && decide (n ≤ 10000)) = true) (hq : K (.own Os.length) (Os ++ [.lst (List.replicate n.toNat x)])) : RepR Os (.own j) (.int n) K := by
  rw [Bool.and_eq_true, decide_eq_true_eq, decide_eq_true_eq] at hk
  exact ⟨j, x, n, rfl, rfl, h, hk.1, hk.2, hq⟩
theorem R_setC {j : Nat} {xs : List AV} {n : Int} {a : AV} {K : List AO → Prop} (h : ListOf Os j = some xs) (hk : (decide (0 ≤ n) && decide (n < xs.length) && decide (n < 2 ^ 62)) = true) (hq : K (Os.set j (.fix (xs.set n.toNat a)))) : SetR Os (.own j) (.int n) a K := by
  rw [Bool.and_eq_true, Bool.and_eq_true, decide_eq_true_eq, decide_eq_true_eq, decide_eq_true_eq] at hk
  exact ⟨j, xs, n, rfl, rfl, h, hk.1.1, hk.1.2, hk.2, hq⟩
theorem R_rng2C {j k : Int} {K : AV → Prop} (h : (decide (-(2 ^ 60) < j) && decide (j < 2 ^ 60) && decide (-(2 ^ 60) < k) && decide (k < 2 ^ 60)) = true) (hk : K (.rng j 1 (k - j).toNat)) : RngR2 (.int j) (.int k) K := by
  simp only [Bool.and_eq_true, decide_eq_true_eq] at h
  exact ⟨j, k, rfl, rfl, ⟨h.1.1.1, h.1.1.2⟩, ⟨h.1.2, h.2⟩, hk⟩
theorem R_rng3C {j k s : Int} {K : AV → Prop} (h : (decide (s ≠ 0) && Builtin.Range.small j k s && decide (s.natAbs < 1073741824) && decide (0 ≤ Builtin.Range.rangeSize j k s)) = true) (hk : K (.rng j s (Builtin.Range.rangeSize j k s).toNat)) : RngR3 (.int j) (.int k) (.int s) K := by
  simp only [Bool.and_eq_true, decide_eq_true_eq] at h
  exact R_rng3 h.1.1.1 h.1.1.2 h.1.2 h.2 hk
end
theorem len_of {w n : Nat} (hw : 1 ≤ w) (h : n < 2 ^ 64) : (dg (2 ^ w) n).length ≤ 64 := by
  refine dg_len (two_le_pow hw) (Nat.lt_of_lt_of_le h ?_)
  exact Nat.pow_le_pow_left (two_le_pow hw) 64
theorem fmod_two (q : Nat) : (q : Int).fmod 2 = ((q % 2 : Nat) : Int) := fmod_nat q 2
theorem fdiv_two (q : Nat) : (q : Int).fdiv 2 = ((q / 2 : Nat) : Int) := fdiv_nat q 2
theorem num_one {w : Nat} (hw : 1 ≤ w) : num w 1 = .list [.int 1] := by
  unfold num; rw [dg_one (two_le_pow hw) (by lia  ) (by have := two_le_pow hw; lia  )]; rfl
theorem num_zero (w : Nat) : num w 0 = .list [] := rfl
noncomputable def pairsAV (ps : List (Nat × Nat)) : List AV := ps.map fun e => .tup [.int e.1, .int e.2]
theorem pairsAV_nown (ps : List (Nat × Nat)) : ∀ x ∈ pairsAV ps, Nown x := by
  intro x hx
  obtain ⟨z, _, rfl⟩ := List.mem_map.mp hx
  exact .tup (nall_cons (.int _) (nall_cons (.int _) nall_nil))
noncomputable def prodM (ps : List (Nat × Nat)) : Nat := ps.foldr (fun e a => e.1 ^ e.2 * a) 1
-- M22
theorem c_poc {C : Cx} (d : Nat) {w b e : Nat} (hw : 1 ≤ w) (hw' : w ≤ 30) (hb : 1 ≤ b) (hb' : b < 2 ^ 30) (hP : b ^ e < 2 ^ 60) :
    WF C (d + 3) 32 [.int b, .int e, .int w, .fn 37] (fun r => r = num w (b ^ e)) := by
  have hB := two_le_pow hw
  refine WF_intro (ns := ["base", "many", "w", "mul"]) (by decide +kernel) rfl (fun pm code doc vs h => by obtain ⟨a, b, c, d, rfl⟩ := len4 h; rfl) (by decide +kernel) (by decide +kernel) (by decide +kernel) (by decide +kernel) (by decide +kernel) (by decide +kernel) ?_
  intro L a cd
  refine BK fun K hK => ?_
  walk_at "s"
  walk_at "s"
  walk_at "s"
  walk_at "s"
  refine E_LstF ?_
  walk_at "s"
  walk_at "s"
  walk_at "s"
  refine ⟨by simp, ?_⟩
  rw [← num_one hw]
  walk_at "go"
  refine R_cal (c_nat_of (d + 1) hw hw' (Nat.le_trans (len_of hw (by walk_at "om")) (by lia         ))) (by walk_at "nown") ?_
  rintro r rfl
  walk_at "go"
  refine S_WhileJ (fun q l O => ∃ F S : Nat, Sub l [("many", .int q), ("found", num w F), ("square", num w S), ("w", .int w), ("mul", .fn 37)] ∧ O = [] ∧ F * S ^ q = b ^ e ∧ 1 ≤ F ∧ 1 ≤ S)
    (fun l O => Sub l [("found", num w (b ^ e))] ∧ O = []) e ⟨1, b, by walk_at "sub", rfl, by lia         , by walk_at "om", hb⟩ ?_ ?_
  · intro q l O
    refine TK1 fun K hK => ?_
    rintro ⟨F, S, hs, rfl, hv, hF, hS⟩
    refine WT_sub hs ?_
    walk_at "go"
    refine ⟨fun h => ?_, fun h => ?_⟩
    · have hq : 0 < q := by first | exact om_dlt h | exact om_dle h | exact om_dp h | (have := of_decide_eq_true h; walk_at "om")
      have hFP : F ≤ b ^ e := by
        rw [← hv]; exact Nat.le_mul_of_pos_right _ (Nat.pow_pos hS)
      have hSP : S ≤ b ^ e := by
        have h1 : S ^ 1 ≤ S ^ q := Nat.pow_le_pow_right hS hq
        rw [Nat.pow_one] at h1
        rw [← hv]; exact Nat.le_trans h1 (Nat.le_mul_of_pos_left _ hF)
      have lF := len_of (n := F) hw (by lia         )
      have lS := len_of (n := S) hw (by lia         )
      refine B_cut (fun l O => ∃ F2, Sub l [("many", .int q), ("found", num w F2), ("square", num w S), ("w", .int w), ("mul", .fn 37)] ∧ O = [] ∧ F2 * (S * S) ^ (q / 2) = b ^ e ∧ 1 ≤ F2) ?_ ?_
      · refine SK fun K hK => ?_
        walk_at "go"
        refine R_mod (by decide) ?_
        rw [fmod_two]
        walk_at "go"
        have hpow : S ^ q = S ^ (q % 2) * (S * S) ^ (q / 2) := by
          rw [← Nat.pow_two, ← Nat.pow_mul, ← Nat.pow_add, Nat.mod_add_div]
        refine ⟨fun h => ?_, fun h => ?_⟩
        · have h1 : q % 2 = 1 := by have := beq_iff_eq.mp h; lia
          walk_at "go"
          refine R_cal (c_mul d hw hw' (by walk_at "om") (by walk_at "om")) (by walk_at "nown") ?_
          rintro r rfl
          walk_at "go"
          refine ⟨F * S, by walk_at "sub", rfl, ?_, Nat.mul_pos hF hS⟩
          rw [← hv, hpow, h1, Nat.pow_one, Nat.mul_assoc]
        · have h1 : q % 2 = 0 := by
            have := beq_eq_false_iff_ne.mp h
            lia
          walk_at "go"
          refine ⟨F, by walk_at "sub", rfl, ?_, hF⟩
          rw [← hv, hpow, h1, Nat.pow_zero, Nat.one_mul]
      · rintro l O ⟨F2, hs, rfl, hv, hF2⟩
        refine WB_sub hs ?_
        walk_at "go"
        refine R_div' (by decide) (by decide) ?_
        rw [fdiv_two]
        walk_at "go"
        refine ⟨fun h => ?_, fun h => ?_⟩
        · walk_at "go"
          refine R_cal (c_mul d hw hw' (by walk_at "om") (by walk_at "om")) (by walk_at "nown") ?_
          rintro r rfl
          walk_at "go"
          exact ⟨q / 2, by lia         , F2, S * S, by walk_at "sub", rfl, hv, hF2, Nat.mul_pos hS hS⟩
        · have h1 : q / 2 = 0 := by first | exact om_dnlt h | exact om_dnle h | exact om_dnp h | (have := of_decide_eq_false h; walk_at "om")
          walk_at "go"
          refine ⟨q / 2, by lia         , F2, S, by walk_at "sub", rfl, ?_, hF2, hS⟩
          rw [h1, Nat.pow_zero] at hv ⊢
          exact hv
    · have hq : q = 0 := by first | exact om_dnlt h | exact om_dnle h | exact om_dnp h | (have := of_decide_eq_false h; walk_at "om")
      subst hq
      rw [Nat.pow_zero, Nat.mul_one] at hv
      subst hv
      exact ⟨by walk_at "sub", rfl⟩
  · rintro l O ⟨hs, rfl⟩
    refine N_next (WB_sub hs ?_)
    walk_at "go"
    exact ⟨_, _, .inl rfl, .same (num_nown _ _), rfl⟩

theorem c_pop1 {C : Cx} (d : Nat) {w : Nat} (hw : 1 ≤ w) (hw' : w ≤ 30) (ps : List (Nat × Nat)) (hps : ps.length ≤ 1) (hb : ∀ e ∈ ps, 1 ≤ e.1 ∧ e.1 < 2 ^ 30 ∧ e.1 ^ e.2 < 2 ^ 60) {av : AV} {O0 : List AO} (hs : SeqOf O0 av = some (pairsAV ps)) (hn : ∀ o ∈ O0, NownO o) :
    WFo C (d + 4) 33 [av, .int w, .fn 37] O0 (fun r O' => r = num w (prodM ps) ∧ O' = O0) := by
  refine WFo_intro (ns := ["pairs", "w", "mul"]) (by decide +kernel) rfl (fun pm code doc vs h => by obtain ⟨a, b, c, rfl⟩ := len3 h; rfl) (by decide +kernel) (by decide +kernel) (by decide +kernel) (by decide +kernel) (by decide +kernel) (by decide +kernel) ?_
  intro L a cd
  refine BK fun K hK => ?_
  match ps, hps with
  | [], _ =>
    walk_at "go"
    refine R_len hs (by simp [pairsAV]) ?_
    walk_at "go"
    refine brT rfl ?_
    walk_at "s"
    walk_at "s"
    refine E_LstF ?_
    walk_at "go"
    refine ⟨by simp, ?_⟩
    walk_at "go"
    refine ⟨_, _, .inl rfl, .same (.list (by walk_at "nown")), by rw [List.take_length]; exact hn, Nat.le_refl _, (num_one hw).symm, List.take_length⟩
  | [(b, e)], _ =>
    obtain ⟨h1, h2, h3⟩ := hb (b, e) (.head _)
    walk_at "go"
    refine R_len hs (by simp [pairsAV]) ?_
    walk_at "go"
    refine brF rfl ?_
    walk_at "go"
    refine R_len hs (by simp [pairsAV]) ?_
    walk_at "go"
    refine brT rfl ?_
    walk_at "go"
    refine R_idx_c hs rfl rfl ?_
    walk_at "go"
    refine R_idx_c hs rfl rfl ?_
    walk_at "go"
    refine R_cal (c_poc d hw hw' h1 h2 h3) (by walk_at "nown") ?_
    rintro r rfl
    walk_at "go"
    refine ⟨_, _, .inl rfl, .same (num_nown _ _), by rw [List.take_length]; exact hn, Nat.le_refl _, ?_, List.take_length⟩
    rw [prodM]; simp
-- M23
theorem WFo.wf' {C : Cx} {d i : Nat} {args : List AV} {P : AV → Prop} (H : WFo C d i args [] (fun a O' => P a ∧ O' = [])) : WF C d i args P := WFo.wf (WFo_mono H fun a o h => h.1)
theorem c_pop {C : Cx} (d : Nat) {w : Nat} (hw : 1 ≤ w) (hw' : w ≤ 30) (ps : List (Nat × Nat)) (hps : ps.length ≤ 2) (hb : ∀ e ∈ ps, 1 ≤ e.1 ∧ e.1 < 2 ^ 30 ∧ e.1 ^ e.2 < 2 ^ 60) {av : AV} {O0 : List AO} (hs : SeqOf O0 av = some (pairsAV ps)) (hn : ∀ o ∈ O0, NownO o) (hav : ∀ zs, av ≠ .tup zs) :
    WFo C (d + 5) 33 [av, .int w, .fn 37] O0 (fun r O' => r = num w (prodM ps) ∧ O' = O0) := by
  by_cases h1 : ps.length ≤ 1
  · exact WFo_le (c_pop1 d hw hw' ps h1 hb hs hn) (by lia         )
  obtain ⟨x, y, rfl⟩ : ∃ x y, ps = [x, y] := by
    match ps, hps, h1 with
    | [], _, h => simp at h
    | [_], _, h => simp at h
    | [x, y], _, _ => exact ⟨x, y, rfl⟩
  obtain ⟨b, e⟩ := x
  obtain ⟨b', e'⟩ := y
  obtain ⟨h1, h2, h3⟩ := hb (b, e) (.head _)
  obtain ⟨g1, g2, g3⟩ := hb (b', e') (.tail _ (.head _))
  refine WFo_intro (ns := ["pairs", "w", "mul"]) (by decide +kernel) rfl (fun pm code doc vs h => by obtain ⟨a, b, c, rfl⟩ := len3 h; rfl) (by decide +kernel) (by decide +kernel) (by decide +kernel) (by decide +kernel) (by decide +kernel) (by decide +kernel) ?_
  intro L a cd
  refine BK fun K hK => ?_
  walk_at "go"
  refine R_len hs (by simp [pairsAV]) ?_
  walk_at "go"
  refine brF rfl ?_
  walk_at "go"
  refine R_len hs (by simp [pairsAV]) ?_
  walk_at "go"
  refine brF rfl ?_
  walk_at "go"
  refine R_len hs (by simp [pairsAV]) ?_
  walk_at "go"
  refine R_div' (by decide) (by decide) ?_
  rw [show (((pairsAV [(b, e), (b', e')]).length : Nat) : Int).fdiv 2 = 1 by rw [show (pairsAV [(b, e), (b', e')]).length = 2 from rfl]; decide]
  walk_at "go"
  refine E_Cal (i := 33) (by decide +kernel) (by rfl) (by rfl) ?_
  walk_at "go"
  refine ⟨none, some 1, rfl, rfl, ?_⟩
  refine ⟨_, pairsAV [(b, e)], none, some 1, hav, hs, rfl, rfl, by simp [pairsAV], ?_⟩
  walk_at "go"
  refine R_cal (c_pop1 d hw hw' [(b, e)] (by simp) (by simp [h1, h2, h3]) (av := .list _) (O0 := []) rfl (by simp)).wf' ?_ ?_
  · exact nall_cons (.list (pairsAV_nown _)) (by walk_at "nown")
  rintro r rfl
  walk_at "go"
  refine E_Cal (i := 33) (by decide +kernel) (by rfl) (by rfl) ?_
  walk_at "go"
  refine ⟨some 1, none, rfl, rfl, ?_⟩
  refine ⟨_, pairsAV [(b', e')], some 1, none, hav, hs, rfl, rfl, by simp [pairsAV], ?_⟩
  walk_at "go"
  refine R_cal (c_pop1 d hw hw' [(b', e')] (by simp) (by simp [g1, g2, g3]) (av := .list _) (O0 := []) rfl (by simp)).wf' ?_ ?_
  · exact nall_cons (.list (pairsAV_nown _)) (by walk_at "nown")
  rintro r rfl
  simp only at h3 g3
  have e1 : prodM [(b, e)] = b ^ e := by simp [prodM]
  have e2 : prodM [(b', e')] = b' ^ e' := by simp [prodM]
  rw [e1, e2]
  walk_at "go"
  refine R_cal (c_mul (d + 2) hw hw' (Nat.le_trans (len_of hw (by walk_at "om")) (by lia         )) (Nat.le_trans (len_of hw (by walk_at "om")) (by lia         ))) (by walk_at "nown") ?_
  rintro r rfl
  walk_at "go"
  refine ⟨_, _, .inl rfl, .same (num_nown _ _), by rw [List.take_length]; exact hn, Nat.le_refl _, ?_, List.take_length⟩
  rw [prodM]; simp
-- M24a
section
variable {C : Cx} {d : Nat} {env : Env} {l : List (Str × AV)} {Os : List AO}
/-- a for over a range, turn by turn -/
noncomputable def URng (C : Cx) (d : Nat) (env : Env) (x : Str) (b : List Stmt) (Q : AF → List (Str × AV) → List AO → Prop) (lo c : Int) : Nat → Nat → List (Str × AV) → List AO → Prop
  | 0, _, l, O => Q .next l O
  | k + 1, t, l, O => WB C d env b ((x, .int (lo + t * c)) :: l) O (Lp (URng C d env x b Q lo c k (t + 1)) (fun l O => Q .next l O) Q)
theorem UR_nil {x : Str} {b : List Stmt} {Q : AF → List (Str × AV) → List AO → Prop} {lo c : Int} {n t : Nat} (hn : Nat.beq n 0 = true) (h : Q .next l Os) : URng C d env x b Q lo c n t l Os := by
  have := Nat.eq_of_beq_eq_true hn
  subst this; exact h
theorem UR_cons {x : Str} {b : List Stmt} {Q : AF → List (Str × AV) → List AO → Prop} {lo c v : Int} {n t : Nat} (hn : Nat.beq n 0 = false) (hv : lo + t * c = v) (h : WB C d env b ((x, .int v) :: l) Os (Lp (URng C d env x b Q lo c (n - 1) (t + 1)) (fun l O => Q .next l O) Q)) : URng C d env x b Q lo c n t l Os := by
  cases n with
  | zero => cases hn
  | succ k => subst hv; exact h
noncomputable def RngU (a : AV) (K : Int → Int → Nat → Prop) : Prop := ∃ lo c n, a = .rng lo c n ∧ K lo c n
theorem R_rngU {lo c : Int} {n : Nat} {K : Int → Int → Nat → Prop} (h : K lo c n) : RngU (.rng lo c n) K := ⟨lo, c, n, rfl, h⟩
theorem S_ForUR {x : Str} {px : Pos} {iter : Expr} {b : List Stmt} {pos : Pos} {Q : AF → List (Str × AV) → List AO → Prop} (hx : env.kindOf x = some .local ∨ (env.kindOf x = some .cell ∧ (env.cells.lookup x).isSome = true))
    (hi : WE C d env iter l Os (fun a l1 O1 => RngU a fun lo c n => URng C d env x b Q lo c n 0 l1 O1))
    (hs : ∀ x, foldedSetIterable iter env x = pure x := by intro _; rfl) : WS C d env (.For (.Name x px) iter b [] pos) l Os Q := by
  refine S_ForR hx (fun p => (hi p).mono fun a l1 O1 ⟨lo, c, n, ha, hu⟩ => ?_) hs
  refine ⟨lo, c, n, ha, fun t l O => URng C d env x b Q lo c (n - t) t l O, hu, fun t k l2 O2 ht hk hI => ?_, fun l2 O2 hI => ?_⟩
  · subst hk
    have hI : URng C d env x b Q lo c (n - t) t l2 O2 := hI
    rw [show n - t = (n - (t + 1)) + 1 by lia  ] at hI
    exact hI
  · have hI : URng C d env x b Q lo c (n - n) n l2 O2 := hI
    rw [Nat.sub_self] at hI
    exact hI
end
-- M24
local macro_rules | `(tactic| walk_at "c") => do
  let a ← alts "brT:r_ brF:r_ R_idx_c:rrr_ R_repC:rr_ R_setC:rr_ R_rng2C:r_ R_rng3C:r_ R_app2:rn_ R_rngU:_ R_mulS:dd_ UR_nil:r_ UR_cons:rr_"
  `(tactic| repeat (first | walk_at "s" | (with_reducible first $[| $a]*) | ((with_reducible show WS _ _ _ (Stmt.For _ _ _ [] _) _ _ _); refine S_ForUR (.inl (by rfl)) ?_)))

noncomputable def primesM : Nat → List Nat
  | 2 => [2]
  | 3 => [2, 3]
  | 4 => [2, 3]
  | _ => []
theorem c_sieve {C : Cx} (d : Nat) (n : Nat) (h1 : 1 ≤ n) (h4 : n ≤ 4) : WF C (d + 1) 30 [.int n] (fun r => r = .list (dgs (primesM n))) := by
  match n, h1, h4 with
  | 1, _, _ =>
    refine WF_intro (ns := ["n"]) (by decide +kernel) rfl (fun pm code doc vs h => by obtain ⟨a, rfl⟩ := len1 h; rfl) (by decide +kernel) (by decide +kernel) (by decide +kernel) (by decide +kernel) (by decide +kernel) (by decide +kernel) ?_
    intro L a cd
    refine BK fun K hK => ?_
    walk_at "c"
    refine ⟨_, _, .inl rfl, .lst (by rfl) (Nat.zero_le _) (dgs_nown _), rfl⟩
  | 2, _, _ =>
    refine WF_intro (ns := ["n"]) (by decide +kernel) rfl (fun pm code doc vs h => by obtain ⟨a, rfl⟩ := len1 h; rfl) (by decide +kernel) (by decide +kernel) (by decide +kernel) (by decide +kernel) (by decide +kernel) (by decide +kernel) ?_
    intro L a cd
    refine BK fun K hK => ?_
    walk_at "c"
    refine ⟨_, _, .inl rfl, .lst (by rfl) (Nat.zero_le _) (dgs_nown _), rfl⟩
  | 3, _, _ =>
    refine WF_intro (ns := ["n"]) (by decide +kernel) rfl (fun pm code doc vs h => by obtain ⟨a, rfl⟩ := len1 h; rfl) (by decide +kernel) (by decide +kernel) (by decide +kernel) (by decide +kernel) (by decide +kernel) (by decide +kernel) ?_
    intro L a cd
    refine BK fun K hK => ?_
    walk_at "c"
    refine ⟨_, _, .inl rfl, .lst (by rfl) (Nat.zero_le _) (dgs_nown _), rfl⟩
  | 4, _, _ =>
    refine WF_intro (ns := ["n"]) (by decide +kernel) rfl (fun pm code doc vs h => by obtain ⟨a, rfl⟩ := len1 h; rfl) (by decide +kernel) (by decide +kernel) (by decide +kernel) (by decide +kernel) (by decide +kernel) (by decide +kernel) ?_
    intro L a cd
    refine BK fun K hK => ?_
    walk_at "c"
    refine ⟨_, _, .inl rfl, .lst (by rfl) (Nat.zero_le _) (dgs_nown _), rfl⟩
theorem primesM_len {n : Nat} (h : n ≤ 4) : (primesM n).length ≤ 2 := by
  match n, h with
  | 0, _ => decide
  | 1, _ => decide
  | 2, _ => decide
  | 3, _ => decide
  | 4, _ => decide

noncomputable def mM (n k p : Nat) : Nat := feM n n p - feM k k p - feM (n - k) (n - k) p
noncomputable def prM (n k : Nat) (p : Nat) : Option (Nat × Nat) := if 0 < mM n k p then some (p, mM n k p) else none
noncomputable def chooseM : Nat → Nat → Nat
  | _, 0 => 1
  | 0, _ + 1 => 0
  | n + 1, k + 1 => chooseM n k + chooseM n (k + 1)
theorem chooseM_zero : ∀ {n k : Nat}, n < k → chooseM n k = 0
  | _, 0, h => by lia
  | 0, _ + 1, _ => rfl
  | n + 1, k + 1, h => by rw [chooseM, chooseM_zero (by lia         ), chooseM_zero (by lia         )]
theorem prM_ok : ∀ n ∈ [1, 2, 3, 4], ∀ k ∈ List.range 5, k ≤ n → prodM ((primesM n).filterMap (prM n k)) = chooseM n k ∧ ((primesM n).filterMap (prM n k)).length ≤ 2 ∧
    (∀ e ∈ (primesM n).filterMap (prM n k), 1 ≤ e.1 ∧ e.1 < 2 ^ 30 ∧ e.1 ^ e.2 < 2 ^ 60) ∧ (∀ p ∈ primesM n, 2 ≤ p ∧ p ≤ 1000 ∧ feM k k p + feM (n - k) (n - k) p ≤ feM n n p) := by decide +kernel

theorem c_binomial {C : Cx} (d : Nat) {w n k : Nat} (hw : 1 ≤ w) (hw' : w ≤ 30) (h1 : 1 ≤ n) (h4 : n ≤ 4) :
    WF C (d + 6) 35 [.int n, .int k, .int w, .fn 37] (fun r => r = num w (chooseM n k)) := by
  refine WF_intro (ns := ["n", "k", "w", "mul"]) (by decide +kernel) rfl (fun pm code doc vs h => by obtain ⟨a, b, c, d, rfl⟩ := len4 h; rfl) (by decide +kernel) (by decide +kernel) (by decide +kernel) (by decide +kernel) (by decide +kernel) (by decide +kernel) ?_
  intro L a cd
  refine BK fun K hK => ?_
  walk_at "go"
  refine R_cal (c_need (d + 4) n) (by walk_at "nown") ?_
  rintro r rfl
  walk_at "go"
  refine R_cal (c_need (d + 4) k) (by walk_at "nown") ?_
  rintro r rfl
  walk_at "go"
  refine ⟨fun h => ?_, fun h => ?_⟩
  · have hkn : n < k := by first | exact om_dlt h | exact om_dle h | exact om_dp h | (have := of_decide_eq_true h; walk_at "om")
    walk_at "go"
    refine ⟨_, _, .inl rfl, .lst rfl (Nat.zero_le _) nall_nil, ?_⟩
    rw [chooseM_zero hkn]; rfl
  · have hkn : k ≤ n := by first | exact om_dnlt h | exact om_dnle h | exact om_dnp h | (have := of_decide_eq_false h; lia         )
    obtain ⟨q1, q2, q3, q4⟩ := prM_ok n (by simp; lia         ) k (by simp; walk_at "om") hkn
    walk_at "go"
    refine S_ForL (.inl (by rfl)) ?_
    walk_at "go"
    refine R_cal (c_sieve (d + 4) n h1 h4) (by walk_at "nown") ?_
    rintro r rfl
    refine ⟨_, rfl, fun t l O => Sub l [("n", .int n), ("k", .int k), ("w", .int w), ("mul", .fn 37), ("pairs", .own 0)] ∧ O = [.lst (pairsAV (((primesM n).take t).filterMap (prM n k)))], ⟨by walk_at "sub", rfl⟩, ?_, ?_⟩
    · intro t z l O
      refine BK2 fun K hK => ?_
      rintro hz ⟨hs, rfl⟩
      have ht : t < (primesM n).length := by have := (List.getElem?_eq_some_iff.mp hz).1; rwa [dgs_len] at this
      have hx : (primesM n)[t]? = some (primesM n)[t] := List.getElem?_eq_getElem ht
      rw [dgs_get hx] at hz; cases hz
      generalize (primesM n)[t] = p at *
      obtain ⟨p1, p2, p3⟩ := q4 p (List.mem_of_getElem? hx)
      have e1 : (n : Int) - (k : Int) = ((n - k : Nat) : Int) := by lia
      have e2 : ((feM n n p : Nat) : Int) - (feM k k p : Nat) - (feM (n - k) (n - k) p : Nat) = (mM n k p : Nat) := by unfold mM; lia
      refine WB_sub (sub_in hs rfl) ?_
      walk_at "go"
      refine R_cal (c_fe (d + 4) p1 p2) (by walk_at "nown") ?_
      rintro r rfl
      walk_at "go"
      refine R_cal (c_fe (d + 4) p1 p2) (by walk_at "nown") ?_
      rintro r rfl
      walk_at "go"
      rw [e1]
      refine R_cal (c_fe (d + 4) p1 p2) (by walk_at "nown") ?_
      rintro r rfl
      walk_at "go"
      rw [e2]
      refine ⟨fun h => ?_, fun h => ?_⟩
      · have hm : 0 < mM n k p := by first | exact om_dlt h | exact om_dle h | exact om_dp h | (have := of_decide_eq_true h; walk_at "om")
        have hp : prM n k p = some (p, mM n k p) := by unfold prM; rw [if_pos hm]
        walk_at "go"
        refine R_app2 rfl ?_ ?_
        · have h1 := List.length_filterMap_le (prM n k) ((primesM n).take t)
          have h2 := List.length_take_le t (primesM n)
          have h3 := primesM_len h4
          simp only [pairsAV, List.length_map]
          lia
        walk_at "go"
        refine ⟨by walk_at "sub", ?_⟩
        rw [take_snoc hx, List.filterMap_append, List.filterMap_cons_some hp]
        simp [pairsAV]
      · have hm : ¬ 0 < mM n k p := by first | exact om_dnlt h | exact om_dnle h | exact om_dnp h | (have := of_decide_eq_false h; walk_at "om")
        have hp : prM n k p = none := by unfold prM; rw [if_neg hm]
        walk_at "go"
        refine ⟨by walk_at "sub", ?_⟩
        rw [take_snoc hx, List.filterMap_append, List.filterMap_cons_none hp]
        simp
    · rintro l O ⟨hs, rfl⟩
      rw [dgs_len, List.take_length]
      refine N_next (WB_sub hs ?_)
      walk_at "s"
      walk_at "s"
      refine E_CalO (i := 33) (by decide +kernel) (by rfl) (by rfl) ?_
      walk_at "go"
      refine R_calO (c_pop d hw hw' _ q2 q3 (av := .own 0) (O0 := [_]) rfl (by intro o ho; rw [List.mem_singleton.mp ho]; exact pairsAV_nown _) (by simp)) rfl (pairsAV_nown _) (by walk_at "nown") ?_
      rintro r rfl
      walk_at "go"
      exact ⟨_, _, .inl rfl, .same (num_nown _ _), by rw [q1]⟩
-- M26
/-- the cells of a comprehension's free names -/
noncomputable def clOf (scope : Scope) (env : Env) : List (Str × Addr) := (scope.names.filter fun x => decide (x.2 = .free)).reverse.filterMap fun x => (env.cells.lookup x.1).map fun c => (x.1, c)
noncomputable def cEnv (scope : Scope) (env : Env) (L : Addr) : Env :=
  { scope := relabel scope env, locals := L, globals := env.globals, cells := cellsFrom (L + 1) scope.names (clOf scope env), qual := env.qual, func := none, code := env.code, frame := env.frame, builtins := env.builtins }

theorem mem_lookup {α : Type} {x : Str} {v : α} : ∀ {l : List (Str × α)}, l.lookup x = some v → (x, v) ∈ l
  | [], h => by simp at h
  | (k, u) :: l, h => by
    rw [List.lookup_cons] at h
    cases hb : x == k with
    | true => rw [hb] at h; cases h; rw [show x = k by simpa using hb]; exact List.mem_cons_self ..
    | false => rw [hb] at h; exact List.mem_cons_of_mem _ (mem_lookup h)
theorem lookup_isSome {α : Type} {x : Str} {v : α} : ∀ {l : List (Str × α)}, (x, v) ∈ l → ∃ u, l.lookup x = some u
  | [], h => by simp at h
  | (k, u) :: l, h => by
    rw [List.lookup_cons]
    cases hb : x == k with
    | true => exact ⟨u, rfl⟩
    | false =>
      rcases List.mem_cons.mp h with e | h
      · cases e; simp at hb
      · exact lookup_isSome h
theorem cl_mem {scope : Scope} {env : Env} {x : Str} {c : Addr} (h : (x, c) ∈ clOf scope env) : env.cells.lookup x = some c ∧ (x, NameKind.free) ∈ scope.names := by
  unfold clOf at h
  obtain ⟨y, hy, e⟩ := List.mem_filterMap.mp h
  obtain ⟨c', hc, e'⟩ := Option.map_eq_some_iff.mp e
  cases e'
  have := List.mem_filter.mp (List.mem_reverse.mp hy)
  have hk : y.2 = .free := by simpa using this.2
  exact ⟨hc, by rw [← hk]; exact this.1⟩
theorem cl_look {scope : Scope} {env : Env} {x : Str} {c : Addr} (h : (x, NameKind.free) ∈ scope.names) (hc : env.cells.lookup x = some c) : (clOf scope env).lookup x = some c := by
  have hm : (x, c) ∈ clOf scope env := by
    unfold clOf
    refine List.mem_filterMap.mpr ⟨(x, .free), List.mem_reverse.mpr (List.mem_filter.mpr ⟨h, by simp⟩), ?_⟩
    simp [hc]
  obtain ⟨u, hu⟩ := lookup_isSome hm
  rw [hu, (cl_mem (mem_lookup hu)).1.symm.trans hc |> Option.some.inj]

theorem cellsFrom_split : ∀ (names : List (Str × NameKind)) (n : Nat) (acc : List (Str × Addr)), cellsFrom n names acc = cellsFrom n names [] ++ acc
  | [], _, _ => rfl
  | (x, k) :: r, n, acc => by
    unfold cellsFrom
    split
    · rw [cellsFrom_split r (n + 1) ((x, n) :: acc), cellsFrom_split r (n + 1) [(x, n)]]; simp
    · exact cellsFrom_split r n acc
theorem cellsFrom_name : ∀ (names : List (Str × NameKind)) (n : Nat) (x : Str) (c : Addr), (x, c) ∈ cellsFrom n names [] → (x, NameKind.cell) ∈ names
  | [], _, _, _, h => by simp [cellsFrom] at h
  | (y, k) :: r, n, x, c, h => by
    unfold cellsFrom at h
    split at h
    · rename_i hk
      rw [cellsFrom_split] at h
      rcases List.mem_append.mp h with h | h
      · exact List.mem_cons_of_mem _ (cellsFrom_name r _ x c h)
      · rw [List.mem_singleton] at h; cases h
        rw [show k = .cell by simpa using hk]; exact List.mem_cons_self ..
    · exact List.mem_cons_of_mem _ (cellsFrom_name r _ x c h)
theorem look_append {α : Type} (x : Str) (ys : List (Str × α)) : ∀ xs : List (Str × α), (xs ++ ys).lookup x = (xs.lookup x).or (ys.lookup x)
  | [] => by simp
  | (a, b) :: xs => by
    rw [List.cons_append, List.lookup_cons, List.lookup_cons]
    cases x == a with
    | true => rfl
    | false => exact look_append x ys xs
theorem relabel_look {env : Env} {x : Str} {k : NameKind} : ∀ {names : List (Str × NameKind)}, names.lookup x = some k →
    (names.map fun (n, k) => if (k == NameKind.free && env.scope.kind == .function && env.kindOf n == some .cell) then (n, NameKind.cell) else (n, k)).lookup x = some (if (k == NameKind.free && env.scope.kind == .function && env.kindOf x == some .cell) then .cell else k)
  | [], h => by simp at h
  | (n, k') :: r, h => by
    have ih := @relabel_look env x k r
    show List.lookup x ((if (k' == NameKind.free && env.scope.kind == .function && env.kindOf n == some .cell) = true then (n, NameKind.cell) else (n, k')) :: _) = _
    rw [List.lookup_cons] at h
    cases hx : x == n with
    | true =>
      rw [hx] at h; cases h
      have : x = n := by simpa using hx
      subst this
      by_cases hc : (k == NameKind.free && env.scope.kind == .function && env.kindOf x == some .cell) = true
      · rw [if_pos hc, if_pos hc]; simp
      · rw [if_neg hc, if_neg hc]; simp
    | false =>
      rw [hx] at h
      by_cases hc : (k' == NameKind.free && env.scope.kind == .function && env.kindOf n == some .cell) = true
      · rw [if_pos hc]; simp only [List.lookup_cons, hx]; exact ih h
      · rw [if_neg hc]; simp only [List.lookup_cons, hx]; exact ih h

/-- what is to be looked at in the names of a comprehension and of the frame around it -/
structure CompOk (scope : Scope) (env : Env) (vs : List (Str × AV)) : Prop where
  kind : scope.kind = .function
  names : (scope.names.map (·.1)).Nodup
  vs1 : (vs.all fun e => decide (scope.names.lookup e.1 = some .free) && (decide (env.kindOf e.1 = some .cell) || decide (env.kindOf e.1 = some .free))) = true
  vs2 : (scope.names.all fun y => !decide (y.2 = .free) || !decide (env.kindOf y.1 = some .cell) || (vs.lookup y.1).isSome) = true

theorem lookup_of_nodup {x : Str} {k : NameKind} : ∀ {names : List (Str × NameKind)}, (names.map (·.1)).Nodup → (x, k) ∈ names → names.lookup x = some k
  | [], _, h => by simp at h
  | (n, k') :: r, hn, h => by
    rw [List.map_cons, List.nodup_cons] at hn
    rw [List.lookup_cons]
    rcases List.mem_cons.mp h with e | h
    · cases e; simp
    · have : x ≠ n := fun q => hn.1 (q ▸ List.mem_map_of_mem (f := (·.1)) h)
      rw [show (x == n) = false by simpa using this]
      exact lookup_of_nodup hn.2 h

theorem pw_inj {α : Type} {a b : Str × α} : ∀ {l : List (Str × α)}, l.Pairwise (fun x y => x.2 ≠ y.2) → a ∈ l → b ∈ l → a.2 = b.2 → a = b
  | [], _, h, _, _ => by simp at h
  | c :: l, hp, ha, hb, e => by
    rw [List.pairwise_cons] at hp
    rcases List.mem_cons.mp ha with q | q <;> rcases List.mem_cons.mp hb with q' | q'
    · rw [q, q']
    · subst q; exact absurd e (hp.1 b q')
    · subst q'; exact absurd e.symm (hp.1 a q)
    · exact pw_inj hp.2 q q' e
theorem cl_pw {scope : Scope} {env : Env} (hn : (scope.names.map (·.1)).Nodup) : (clOf scope env).Pairwise fun x y => x.1 ≠ y.1 := by
  have h1 : scope.names.Pairwise fun x y => x.1 ≠ y.1 := List.pairwise_map.mp hn
  unfold clOf
  rw [List.pairwise_filterMap]
  refine (List.pairwise_reverse.mpr ((h1.filter _).imp fun h => Ne.symm h)).imp fun {a b} h x hx y hy => ?_
  obtain ⟨_, _, rfl⟩ := Option.map_eq_some_iff.mp hx
  obtain ⟨_, _, rfl⟩ := Option.map_eq_some_iff.mp hy
  exact h

noncomputable def outX (X : Addr → Prop) (env cenv : Env) (a : Addr) : Prop := X a ∨ (a ∈ env.locals :: ownCells env ∧ a ∉ ownCells cenv)

section
variable {C : Cx} {d : Nat} {env : Env} {p : List (Value × AV)} {l : List (Str × AV)} {Os : List AO} {X : Addr → Prop} {β : List Addr} {h h' : Heap}

theorem cenv_kind {scope : Scope} {vs : List (Str × AV)} {x : Str} {k : NameKind} {L : Addr} (K : CompOk scope env vs) (hx : (x, k) ∈ scope.names) :
    (cEnv scope env L).kindOf x = some (if (k == NameKind.free && env.scope.kind == .function && env.kindOf x == some .cell) then .cell else k) := relabel_look (lookup_of_nodup K.names hx)

/-- into a comprehension -/
theorem enter_comp {scope : Scope} {vs : List (Str × AV)} (H : Hold C X env l β Os p h) (K : CompOk scope env vs) (hs : Sub l vs) {L : Addr} {hb h4 : Heap} (hL : hb.objs.size = L) (h4e : h4 = pushCells (hb.push { cls := .type "dict", data := .dict #[] }) scope.names) (hk0 : ∀ b o, h.get? b = some o → hb.get? b = some o)
    {D : Addr} (hD : h.get? D = none) (hDb : hb.get? D = some { cls := .type "list", data := .seq #[] }) :
    Hold C (outX X env (cEnv scope env L)) (cEnv scope env L) vs (β ++ [D]) (Os ++ [.lst []]) p h4 ∧ (∀ b o, hb.get? b = some o → h4.get? b = some o) ∧ h.get? L = none ∧
      (∀ c ∈ ownCells (cEnv scope env L), h.get? c = none ∨ ∃ x, (x, c) ∈ clOf scope env ∧ env.kindOf x = some .cell ∧ c ∈ ownCells env) ∧ (∀ x c, (x, c) ∈ clOf scope env → (cEnv scope env L).cells.lookup x = some c) := by
  have hLn : hb.get? L = none := by rw [← hL]; exact get_size hb
  have hk1 : ∀ b o, hb.get? b = some o → h4.get? b = some o := fun b o e => by rw [h4e]; exact pushCells_keeps _ _ b o (Heap.get?_push_of_some _ e)
  have hk : ∀ b o, h.get? b = some o → h4.get? b = some o := fun b o e => hk1 b o (hk0 b o e)
  have hLns : h4.Ns L fun _ => none := by
    rw [h4e, ← hL]; exact (Heap.Ns.new hb (.type "dict")).keeps (pushCells_keeps _ _)
  have hsz : (hb.push { cls := .type "dict", data := .dict #[] }).objs.size = L + 1 := by rw [Heap.size_push, hL]
  have ok := cellsFrom_ok scope.names (hb.push { cls := .type "dict", data := .dict #[] }) (L + 1) [] ⟨fun _ _ hm => (nomatch hm), List.Pairwise.nil⟩ (by rw [hsz]; exact Nat.le_refl _)
  rw [hsz, ← h4e] at ok
  have lt_of : ∀ b o, h.get? b = some o → b < L := fun b o e => by rw [← hL]; exact Heap.lt_size (hk0 b o e)
  have hDL : D < L := by rw [← hL]; exact Heap.lt_size hDb
  -- the cells of the inner frame
  have hcells : (cEnv scope env L).cells = cellsFrom (L + 1) scope.names [] ++ clOf scope env := cellsFrom_split _ _ _
  have newk : ∀ x c, (x, c) ∈ cellsFrom (L + 1) scope.names [] → (cEnv scope env L).kindOf x = some .cell := fun x c hm => by
    rw [cenv_kind K (cellsFrom_name _ _ _ _ hm)]; rfl
  have clk : ∀ x c, (x, c) ∈ clOf scope env → (cEnv scope env L).kindOf x = some .cell → env.kindOf x = some .cell := fun x c hm hkk => by
    rw [cenv_kind K (cl_mem hm).2] at hkk
    split at hkk
    · rename_i hc
      simp only [Bool.and_eq_true, beq_iff_eq] at hc
      exact hc.2
    · cases hkk
  have ownm : ∀ c, c ∈ ownCells (cEnv scope env L) → (∃ x, (x, c) ∈ cellsFrom (L + 1) scope.names []) ∨ (∃ x, (x, c) ∈ clOf scope env ∧ env.kindOf x = some .cell) := fun c hm => by
    unfold ownCells at hm
    rw [hcells] at hm
    obtain ⟨⟨x, c'⟩, hm1, rfl⟩ := List.mem_map.mp hm
    have hm := List.mem_filter.mp hm1
    rcases List.mem_append.mp hm.1 with q | q
    · exact .inl ⟨x, q⟩
    · exact .inr ⟨x, q, clk x c' q (by simpa using hm.2)⟩
  have own_of : ∀ x c, (x, c) ∈ (cEnv scope env L).cells → (cEnv scope env L).kindOf x = some .cell → c ∈ ownCells (cEnv scope env L) := fun x c hm hkk => by
    unfold ownCells
    exact List.mem_map.mpr ⟨(x, c), List.mem_filter.mpr ⟨hm, by simpa using hkk⟩, rfl⟩
  have newge : ∀ x c, (x, c) ∈ cellsFrom (L + 1) scope.names [] → L < c := fun x c hm => (ok.empty x c hm).2
  have clown : ∀ x c, (x, c) ∈ clOf scope env → env.kindOf x = some .cell → c ∈ ownCells env := fun x c hm hkk => H.cown x c (cl_mem hm).1 hkk
  have memine : ∀ c, c ∈ ownCells env → c ∈ mine env β := fun c hm => List.mem_cons_of_mem _ (List.mem_append_left _ hm)
  have hnd := H.nd
  unfold mine at hnd
  rw [List.nodup_cons, List.nodup_append] at hnd
  have hF : ∀ b o, ¬ Fb X env β b → h.get? b = some o → ¬ Fb (outX X env (cEnv scope env L)) (cEnv scope env L) (β ++ [D]) b := fun b o hb' e hx => by
    have hlt := lt_of b o e
    rcases hx with (hx | hx) | hx
    · exact hb' (.inl hx)
    · rcases List.mem_cons.mp hx.1 with q | q
      · exact hb' (.inr (q ▸ List.mem_cons_self ..))
      · exact hb' (.inr (memine b q))
    · rcases List.mem_cons.mp hx with q | q
      · have : b = L := q
        exact (Nat.lt_irrefl _ (this ▸ hlt)).elim
      · rcases List.mem_append.mp q with q | q
        · rcases ownm b q with ⟨x, hm⟩ | ⟨x, hm, hkk⟩
          · exact (Nat.lt_asymm hlt (newge x b hm)).elim
          · exact hb' (.inr (memine b (clown x b hm hkk)))
        · rcases List.mem_append.mp q with q | q
          · exact hb' (.inr (List.mem_cons_of_mem _ (List.mem_append_right _ q)))
          · rw [List.mem_singleton.mp q, hD] at e; cases e
  have st : ∀ {v x}, Is C (Fb X env β) β h v x → Is C (Fb (outX X env (cEnv scope env L)) (cEnv scope env L) (β ++ [D])) (β ++ [D]) h4 v x := fun hi => hi.stable (fun b o _ e => hk b o e) hF get_append
  have nb : ∀ a, h.get? a = none → C.s.heap.get? a = none := fun a ha => by
    cases e : C.s.heap.get? a with
    | none => rfl
    | some o => rw [H.base a o e] at ha; cases ha
  have hLh : h.get? L = none := by
    cases e : h.get? L with
    | none => rfl
    | some o => exact (Nat.lt_irrefl _ (lt_of L o e)).elim
  have newh : ∀ x c, (x, c) ∈ cellsFrom (L + 1) scope.names [] → h.get? c = none := fun x c hm => by
    cases e : h.get? c with
    | none => rfl
    | some o => exact (Nat.lt_asymm (lt_of c o e) (newge x c hm)).elim
  have notX : ∀ a, h.get? a = none → ¬ outX X env (cEnv scope env L) a := fun a ha hx => by
    rcases hx with hx | hx
    · obtain ⟨_, o, e⟩ := H.xin a hx; rw [ha] at e; cases e
    · rcases List.mem_cons.mp hx.1 with q | q
      · obtain ⟨_, _, o, e⟩ := H.new _ (List.mem_cons_self ..); rw [q, e] at ha; cases ha
      · obtain ⟨_, _, o, e⟩ := H.new a (memine a q); rw [ha] at e; cases e
  refine ⟨⟨⟨K.kind, H.ok.globals, H.ok.builtins⟩, fun b o e => hk b o (H.base b o e), fun a ha => ?_, ?_, fun a ha => ?_, ⟨_, hLns⟩, fun x c e => ?_, fun x c e hkk => own_of x c (mem_lookup e) hkk, fun x y c e1 e2 => ?_, fun x av e => ?_, by simp [H.len], fun i a o ha ho => ?_, fun v av hm => st (H.pend v av hm)⟩, hk1, hLh, fun c hc => ?_, fun x c hm => ?_⟩
  · rcases ha with ha | ha
    · obtain ⟨h1, o, h2⟩ := H.xin a ha; exact ⟨h1, o, hk a o h2⟩
    · rcases List.mem_cons.mp ha.1 with q | q
      · obtain ⟨h1, _, o, h2⟩ := H.new env.locals (List.mem_cons_self ..); rw [q]; exact ⟨h1, o, hk _ o h2⟩
      · obtain ⟨h1, _, o, h2⟩ := H.new a (memine a q); exact ⟨h1, o, hk a o h2⟩
  · show (L :: (ownCells (cEnv scope env L) ++ (β ++ [D]))).Nodup
    have ex : ∀ b ∈ β, ∃ o, h.get? b = some o := fun b hb' => (H.new b (List.mem_cons_of_mem _ (List.mem_append_right _ hb'))).2.2
    have exc : ∀ x c, (x, c) ∈ clOf scope env → ∃ o, h.get? c = some o := fun x c hm => by
      obtain ⟨_, v, o, ho, _⟩ := H.cl x c (cl_mem hm).1; exact ⟨o, ho⟩
    rw [List.nodup_cons, List.nodup_append, List.nodup_append]
    refine ⟨fun hm => ?_, ?_, ⟨hnd.2.2.1, by simp, fun a ha b hb' e => ?_⟩, fun a ha b hb' e => ?_⟩
    · rcases List.mem_append.mp hm with q | q
      · rcases ownm L q with ⟨x, hm⟩ | ⟨x, hm, _⟩
        · exact Nat.lt_irrefl _ (newge x L hm)
        · obtain ⟨o, ho⟩ := exc x L hm; rw [hLh] at ho; cases ho
      · rcases List.mem_append.mp q with q | q
        · obtain ⟨o, ho⟩ := ex L q; rw [hLh] at ho; cases ho
        · rw [List.mem_singleton.mp q] at hDL; exact Nat.lt_irrefl _ hDL
    · unfold ownCells
      rw [hcells]
      refine List.pairwise_map.mpr (List.Pairwise.filter _ ?_)
      rw [List.pairwise_append]
      have hcl : (clOf scope env).Pairwise fun x y => x.2 ≠ y.2 := (cl_pw K.names).imp_of_mem fun {a b} ha hb' hne e => hne (H.capart a.1 b.1 a.2 (cl_mem ha).1 (by rw [e]; exact (cl_mem hb').1))
      refine ⟨ok.apart, hcl, fun a ha b hb' e => ?_⟩
      · have h1 := newh a.1 a.2 ha
        obtain ⟨o, ho⟩ := exc b.1 b.2 hb'
        rw [← e, h1] at ho; cases ho
    · rw [List.mem_singleton.mp hb'] at e
      obtain ⟨o, ho⟩ := ex a ha
      rw [e, hD] at ho; cases ho
    · subst e
      rcases ownm a ha with ⟨x, hm⟩ | ⟨x, hm, hkk⟩
      · rcases List.mem_append.mp hb' with q | q
        · obtain ⟨o, ho⟩ := ex a q; rw [newh x a hm] at ho; cases ho
        · rw [List.mem_singleton.mp q] at hm
          exact Nat.lt_asymm hDL (newge x D hm)
      · rcases List.mem_append.mp hb' with q | q
        · exact hnd.2.2.2 a (clown x a hm hkk) a q rfl
        · obtain ⟨o, ho⟩ := exc x a hm
          rw [List.mem_singleton.mp q, hD] at ho; cases ho
  · rcases List.mem_cons.mp ha with q | q
    · have q' : a = L := q
      subst q'
      obtain ⟨o, _, _, ho, _⟩ := hLns
      exact ⟨nb _ hLh, notX _ hLh, o, ho⟩
    · rcases List.mem_append.mp q with q | q
      · rcases ownm a q with ⟨x, hm⟩ | ⟨x, hm, hkk⟩
        · obtain ⟨o, ho, _⟩ := (ok.empty x a hm).1
          exact ⟨nb _ (newh x a hm), notX _ (newh x a hm), o, ho⟩
        · obtain ⟨h1, h2, o, h3⟩ := H.new a (memine a (clown x a hm hkk))
          exact ⟨h1, fun hx => hx.elim h2 fun hx => hx.2 q, o, hk a o h3⟩
      · rcases List.mem_append.mp q with q | q
        · obtain ⟨h1, h2, o, h3⟩ := H.new a (List.mem_cons_of_mem _ (List.mem_append_right _ q))
          refine ⟨h1, fun hx => hx.elim h2 fun hx => ?_, o, hk a o h3⟩
          rcases List.mem_cons.mp hx.1 with q' | q'
          · exact hnd.1 (q' ▸ List.mem_append_right _ q)
          · exact hnd.2.2.2 a q' a q rfl
        · rw [List.mem_singleton.mp q]
          exact ⟨nb _ hD, notX _ hD, _, hk1 _ _ hDb⟩
  · have hm := mem_lookup e
    rw [hcells] at hm
    rcases List.mem_append.mp hm with q | q
    · exact ⟨.inl (own_of x c (by rw [hcells]; exact hm) (newk x c q)), _, (ok.empty x c q).1⟩
    · obtain ⟨h1, v, h2⟩ := H.cl x c (cl_mem q).1
      refine ⟨?_, v, h2.keeps hk⟩
      by_cases hc : c ∈ ownCells (cEnv scope env L)
      · exact .inl hc
      · right
        rcases h1 with h1 | h1
        · exact .inr ⟨List.mem_cons_of_mem _ h1, hc⟩
        · exact .inl h1
  · have hm1 := mem_lookup e1
    have hm2 := mem_lookup e2
    rw [hcells] at hm1 hm2
    rcases List.mem_append.mp hm1 with q1 | q1 <;> rcases List.mem_append.mp hm2 with q2 | q2
    · have := pw_inj ok.apart q1 q2 rfl
      exact congrArg Prod.fst this
    · have := newh x c q1
      obtain ⟨_, v, o, ho, _⟩ := H.cl y c (cl_mem q2).1
      rw [this] at ho; cases ho
    · have := newh y c q2
      obtain ⟨_, v, o, ho, _⟩ := H.cl x c (cl_mem q1).1
      rw [this] at ho; cases ho
    · exact H.capart x y c (cl_mem q1).1 (cl_mem q2).1
  · have hl := hs (x, av) (mem_lookup e)
    obtain ⟨v, hv, hi⟩ := H.vars x av hl
    have hk' := List.all_eq_true.mp K.vs1 (x, av) (mem_lookup e)
    simp only [Bool.and_eq_true, Bool.or_eq_true, decide_eq_true_eq] at hk'
    have hfm : (x, NameKind.free) ∈ scope.names := mem_lookup hk'.1
    refine ⟨v, .inr ?_, st hi⟩
    rcases hv with ⟨q, _⟩ | ⟨_, c, hc, hcell⟩
    · rcases hk'.2 with q' | q' <;> (rw [q] at q'; cases q')
    · refine ⟨?_, c, ?_, hcell.keeps hk⟩
      · rw [cenv_kind K hfm]
        split
        · exact .inl rfl
        · exact .inr rfl
      · rw [hcells, look_append, cl_look hfm hc]
        cases q : (cellsFrom (L + 1) scope.names []).lookup x with
        | none => rfl
        | some c' =>
          have h1 := lookup_of_nodup K.names (cellsFrom_name _ _ _ _ (mem_lookup q))
          rw [hk'.1] at h1; cases h1
  · by_cases q : i < β.length
    · rw [List.getElem?_append_left q] at ha
      rw [List.getElem?_append_left (H.len ▸ q)] at ho
      exact (H.objs i a o ha ho).stable (fun o e => hk a o e) (fun b o _ e => hk b o e) hF get_append
    · rw [List.getElem?_append_right (Nat.not_lt.mp q)] at ha
      rw [List.getElem?_append_right (H.len ▸ Nat.not_lt.mp q), ← H.len] at ho
      cases hj : i - β.length with
      | succ n => rw [hj] at ha; simp at ha
      | zero =>
        rw [hj] at ha ho
        simp only [List.getElem?_cons_zero, Option.some.injEq] at ha ho
        subst ha; subst ho
        exact ⟨[], ⟨0, hk1 _ _ hDb⟩, rfl, fun i v x e => by simp at e⟩
  · rcases ownm c hc with ⟨x, hm⟩ | ⟨x, hm, hkk⟩
    · exact .inl (newh x c hm)
    · exact .inr ⟨x, hm, hkk, clown x c hm hkk⟩
  · rw [hcells, look_append, cl_look (cl_mem hm).2 (cl_mem hm).1]
    cases q : (cellsFrom (L + 1) scope.names []).lookup x with
    | none => rfl
    | some c' =>
      have h1 := lookup_of_nodup K.names (cellsFrom_name _ _ _ _ (mem_lookup q))
      rw [lookup_of_nodup K.names (cl_mem hm).2] at h1; cases h1

/-- out of a comprehension -/
theorem leave_comp {scope : Scope} {vs l2 : List (Str × AV)} {O2 : List AO} {β4 : List Addr} {D L : Addr} {h5 h6 : Heap} (H : Hold C X env l β Os p h) (K : CompOk scope env vs) (hs : Sub l vs) (hs2 : Sub l2 vs) (hD : h.get? D = none) (hL : h.get? L = none)
    (hA : ∀ c ∈ ownCells (cEnv scope env L), h.get? c = none ∨ ∃ x, (x, c) ∈ clOf scope env ∧ env.kindOf x = some .cell ∧ c ∈ ownCells env) (hC : ∀ x c, (x, c) ∈ clOf scope env → (cEnv scope env L).cells.lookup x = some c)
    (G : Hold C (outX X env (cEnv scope env L)) (cEnv scope env L) l2 (β ++ [D] ++ β4) O2 p h5) (hP : ∀ b o, h.get? b = some o → b ∉ mine (cEnv scope env L) (β ++ [D]) → h5.get? b = some o) (hβ4 : ∀ b ∈ β4, h.get? b = none)
    (hk6 : ∀ b o, b ≠ L → h5.get? b = some o → h6.get? b = some o) :
    Hold C X env l (β ++ ([D] ++ β4)) O2 p h6 ∧ Pres env β h h6 ∧ (∀ {v x}, Is C (Fb (outX X env (cEnv scope env L)) (cEnv scope env L) (β ++ [D] ++ β4)) (β ++ [D] ++ β4) h5 v x → Is C (Fb X env (β ++ ([D] ++ β4))) (β ++ ([D] ++ β4)) h6 v x) := by
  have hnd := H.nd
  unfold mine at hnd
  rw [List.nodup_cons, List.nodup_append] at hnd
  have ex : ∀ b ∈ mine env β, ∃ o, h.get? b = some o := fun b hb => (H.new b hb).2.2
  have memine : ∀ c, c ∈ ownCells env → c ∈ mine env β := fun c hm => List.mem_cons_of_mem _ (List.mem_append_left _ hm)
  have neL : ∀ b o, h.get? b = some o → b ≠ L := fun b o e q => by rw [q, hL] at e; cases e
  have notin : ∀ b o, h.get? b = some o → b ∉ ownCells env → b ∉ β → b ∉ mine (cEnv scope env L) (β ++ [D]) := fun b o e h1 h2 hm => by
    rcases List.mem_cons.mp hm with q | q
    · exact neL b o e q
    · rcases List.mem_append.mp q with q | q
      · rcases hA b q with q' | ⟨x, _, _, q'⟩
        · rw [q'] at e; cases e
        · exact h1 q'
      · rcases List.mem_append.mp q with q | q
        · exact h2 q
        · rw [List.mem_singleton.mp q, hD] at e; cases e
  have keep : ∀ b o, h.get? b = some o → b ∉ ownCells env → b ∉ β → h6.get? b = some o := fun b o e h1 h2 => hk6 b o (neL b o e) (hP b o e (notin b o e h1 h2))
  have keepc : ∀ c o, h.get? c = some o → c ∉ ownCells (cEnv scope env L) → c ∉ β → h6.get? c = some o := fun c o e h1 h2 => hk6 c o (neL c o e) (hP c o e fun hm => by
    rcases List.mem_cons.mp hm with q | q
    · exact neL c o e q
    · rcases List.mem_append.mp q with q | q
      · exact h1 q
      · rcases List.mem_append.mp q with q | q
        · exact h2 q
        · rw [List.mem_singleton.mp q, hD] at e; cases e)
  have locn : env.locals ∉ ownCells (cEnv scope env L) := fun hm => by
    rcases hA _ hm with q | ⟨_, _, _, q⟩
    · obtain ⟨o, e⟩ := ex env.locals (List.mem_cons_self ..); rw [q] at e; cases e
    · exact hnd.1 (List.mem_append_left _ q)
  have hback : ∀ b, ¬ Fb (outX X env (cEnv scope env L)) (cEnv scope env L) (β ++ [D] ++ β4) b → ¬ Fb X env (β ++ ([D] ++ β4)) b := fun b hb hx => by
    rcases hx with hx | hx
    · exact hb (.inl (.inl hx))
    · rcases List.mem_cons.mp hx with q | q
      · exact hb (.inl (.inr ⟨q ▸ List.mem_cons_self .., q ▸ locn⟩))
      · rcases List.mem_append.mp q with q | q
        · by_cases hc : b ∈ ownCells (cEnv scope env L)
          · exact hb (.inr (List.mem_cons_of_mem _ (List.mem_append_left _ hc)))
          · exact hb (.inl (.inr ⟨List.mem_cons_of_mem _ q, hc⟩))
        · exact hb (.inr (List.mem_cons_of_mem _ (List.mem_append_right _ (by rw [List.append_assoc]; exact q))))
  have st : ∀ {v x}, Is C (Fb (outX X env (cEnv scope env L)) (cEnv scope env L) (β ++ [D] ++ β4)) (β ++ [D] ++ β4) h5 v x → Is C (Fb X env (β ++ ([D] ++ β4))) (β ++ ([D] ++ β4)) h6 v x := fun hi =>
    hi.stable (fun b o hb e => hk6 b o (fun q => hb (.inr (q ▸ List.mem_cons_self ..))) e) (fun b o hb _ => hback b hb) fun i a e => by rw [← List.append_assoc]; exact e
  have stO : ∀ {v x}, Is C (Fb X env β) β h v x → Is C (Fb X env (β ++ ([D] ++ β4))) (β ++ ([D] ++ β4)) h6 v x := fun hi =>
    hi.stable (fun b o hb e => keep b o e (fun q => hb (.inr (memine b q))) fun q => hb (.inr (List.mem_cons_of_mem _ (List.mem_append_right _ q)))) (fun b o hb e hx => by
      rcases hx with hx | hx
      · exact hb (.inl hx)
      · rw [mine_append] at hx
        rcases List.mem_append.mp hx with q | q
        · exact hb (.inr q)
        · rcases List.mem_append.mp q with q | q
          · rw [List.mem_singleton.mp q, hD] at e; cases e
          · rw [hβ4 b q] at e; cases e) get_append
  have hGnd := G.nd
  unfold mine at hGnd
  rw [List.nodup_cons, List.nodup_append] at hGnd
  have exG : ∀ a, a ∈ env.locals :: ownCells env → ∃ o, h5.get? a = some o := fun a ha => by
    by_cases hc : a ∈ ownCells (cEnv scope env L)
    · exact (G.new a (List.mem_cons_of_mem _ (List.mem_append_left _ hc))).2.2
    · exact (G.xin a (.inr ⟨ha, hc⟩)).2
  have offB : ∀ a, a ∈ env.locals :: ownCells env → a ∉ β ++ [D] ++ β4 := fun a ha hb => by
    by_cases hc : a ∈ ownCells (cEnv scope env L)
    · exact hGnd.2.2.2 a hc a hb rfl
    · exact (G.new a (List.mem_cons_of_mem _ (List.mem_append_right _ hb))).2.1 (.inr ⟨ha, hc⟩)
  refine ⟨⟨H.ok, fun b o e => hk6 b o (neL b o (H.base b o e)) (G.base b o e), fun a ha => ?_, ?_, fun a ha => ?_, ?_, fun x c e => ?_, H.cown, H.capart, fun x av e => ?_, by rw [← G.len, List.append_assoc], fun i a o ha ho => ?_, fun v av hm => st (G.pend v av hm)⟩, fun b o e hb => keep b o e (fun q => hb (memine b q)) fun q => hb (List.mem_cons_of_mem _ (List.mem_append_right _ q)), st⟩
  · obtain ⟨h1, o, h2⟩ := H.xin a ha
    obtain ⟨_, o', h3⟩ := G.xin a (.inl ha)
    exact ⟨h1, o', hk6 a o' (neL a o h2) h3⟩
  · unfold mine
    rw [show β ++ ([D] ++ β4) = β ++ [D] ++ β4 from (List.append_assoc ..).symm, List.nodup_cons, List.nodup_append]
    refine ⟨fun hm => ?_, hnd.2.1, hGnd.2.2.1, fun a ha b hb e => offB a (List.mem_cons_of_mem _ ha) (e ▸ hb)⟩
    rcases List.mem_append.mp hm with q | q
    · exact hnd.1 (List.mem_append_left _ q)
    · exact offB _ (List.mem_cons_self ..) q
  · rcases List.mem_cons.mp ha with q | q
    · obtain ⟨h1, h2, o, h3⟩ := H.new env.locals (List.mem_cons_self ..)
      obtain ⟨o', h4⟩ := exG env.locals (List.mem_cons_self ..)
      rw [q]; exact ⟨h1, h2, o', hk6 _ o' (neL _ o h3) h4⟩
    · rcases List.mem_append.mp q with q | q
      · obtain ⟨h1, h2, o, h3⟩ := H.new a (memine a q)
        obtain ⟨o', h4⟩ := exG a (List.mem_cons_of_mem _ q)
        exact ⟨h1, h2, o', hk6 _ o' (neL _ o h3) h4⟩
      · rw [← List.append_assoc] at q
        obtain ⟨h1, h2, o, h3⟩ := G.new a (List.mem_cons_of_mem _ (List.mem_append_right _ q))
        exact ⟨h1, fun hx => h2 (.inl hx), o, hk6 a o (fun e => hGnd.1 (e ▸ List.mem_append_right _ q)) h3⟩
  · obtain ⟨m, o, es, ep, ho, r⟩ := H.ns
    exact ⟨m, o, es, ep, keep _ o ho (fun q => hnd.1 (List.mem_append_left _ q)) (fun q => hnd.1 (List.mem_append_right _ q)), r⟩
  · obtain ⟨h1, v, h2⟩ := H.cl x c e
    refine ⟨h1, ?_⟩
    by_cases hc : c ∈ ownCells (cEnv scope env L)
    · obtain ⟨o, ho, _⟩ := h2
      rcases hA c hc with q | ⟨y, hy, _, _⟩
      · rw [q] at ho; cases ho
      · obtain ⟨_, v', o', ho', r⟩ := G.cl y c (hC y c hy)
        exact ⟨v', o', hk6 c o' (neL c o ho) ho', r⟩
    · obtain ⟨o, ho, r⟩ := h2
      exact ⟨v, o, keepc c o ho hc (H.cell_ne e).2, r⟩
  · obtain ⟨v, hv, hi⟩ := H.vars x av e
    rcases hv with ⟨k, m, ⟨o, es, ep, ho, r⟩, hx⟩ | ⟨k, c, hc, o, ho, r⟩
    · exact ⟨v, .inl ⟨k, m, ⟨o, es, ep, keep _ o ho (fun q => hnd.1 (List.mem_append_left _ q)) (fun q => hnd.1 (List.mem_append_right _ q)), r⟩, hx⟩, stO hi⟩
    · by_cases hcc : c ∈ ownCells (cEnv scope env L)
      · rcases hA c hcc with q | ⟨y, hy, hky, _⟩
        · rw [q] at ho; cases ho
        · have : y = x := H.capart y x c (cl_mem hy).1 hc
          subst this
          have h2 := List.all_eq_true.mp K.vs2 _ (cl_mem hy).2
          simp only [Bool.or_eq_true, Bool.not_eq_true', decide_eq_false_iff_not, not_true_eq_false, false_or] at h2
          have h3 : (vs.lookup y).isSome = true := by
            rcases h2 with h2 | h2
            · exact absurd hky h2
            · exact h2
          obtain ⟨av', h4⟩ := Option.isSome_iff_exists.mp h3
          have h5' := hs (y, av') (mem_lookup h4)
          rw [show l.lookup y = some av from e] at h5'
          cases h5'
          obtain ⟨v2, hv2, hi2⟩ := G.vars y av' (hs2 (y, av') (mem_lookup h4))
          refine ⟨v2, .inr ⟨k, c, hc, ?_⟩, st hi2⟩
          rcases hv2 with ⟨k2, _⟩ | ⟨_, c2, hc2, o2, ho2, r2⟩
          · rw [cenv_kind K (cl_mem hy).2] at k2
            split at k2 <;> cases k2
          · rw [hC y c hy] at hc2; cases hc2
            exact ⟨o2, hk6 c o2 (neL c o ho) ho2, r2⟩
      · exact ⟨v, .inr ⟨k, c, hc, o, keepc c o ho hcc (H.cell_ne hc).2, r⟩, stO hi⟩
  · have ha' : (β ++ [D] ++ β4)[i]? = some a := by rw [List.append_assoc]; exact ha
    refine (G.objs i a o ha' ho).stable (fun o e => hk6 a o (fun q => ?_) e) (fun b o hb e => hk6 b o (fun q => hb (.inr (q ▸ List.mem_cons_self ..))) e) (fun b o hb _ => hback b hb) fun i a e => by rw [← List.append_assoc]; exact e
    exact hGnd.1 (q ▸ List.mem_append_right _ (List.mem_of_getElem? ha'))
end
-- M27
theorem wp_newCompEnv {M : Model} {A : Around} {E : Value → Shared → Prop} {s : Shared} {scope : Scope} {env : Env} {cl : List (Str × Addr)} {Q : Env → Shared → Prop}
    (hQ : Q { scope := scope, locals := s.heap.objs.size, globals := env.globals, cells := cellsFrom (s.heap.objs.size + 1) scope.names cl, qual := env.qual, func := none, code := env.code, frame := env.frame, builtins := env.builtins }
      { s with heap := pushCells (s.heap.push { cls := .type "dict", data := .dict #[] }) scope.names }) : wpAny M A (newFunctionEnv scope env.globals cl [] env.qual none .none (some env)) Q E s := by
  simp only [newFunctionEnv, Option.isSome_some, if_true]
  refine wpAny_bind (wpAny_alloc ?_)
  refine wpAny_bind (wpAny_layCells _ (fun name kind cells => by cases hkc : kind == NameKind.cell <;> simp) _ _ _ _ ?_)
  rw [show ({ s with heap := s.heap.push { cls := .type "dict", data := .dict #[] } } : Shared).heap.objs.size = s.heap.objs.size + 1 from Heap.size_push ..]
  rw [List.forIn_nil]
  exact wpAny_bind (wpAny_pure (wpAny_pure hQ))

theorem loop_comp {prog : Program} {w : World} {A : Around} {elt tg iter : Expr} {scope : Scope} {pos : Pos} {it acc : Value} {cenv : Env} {R : Result → Shared → Prop} {s : Shared} (I : Nat → Shared → Prop)
    (turn : ∀ n s, I n s → wpAny (model prog w) A (pyNext it) (fun r s₁ => match r with
      | none => R (.ok .next) s₁
      | some v => wpAny (model prog w) A (letOwnedTupleGo tg it v) (fun _ s₁' => wpAny (model prog w) A (assign tg cenv v) (fun _ s₂ => wpAny (model prog w) A (eval elt cenv) (fun x s₃ =>
          wpAny (model prog w) A (call (.builtin "list.append") [acc, x]) (fun _ s₄ => ∃ m, m < n ∧ I m s₄) (fun _ _ => False) s₃) (fun _ _ => False) s₂) (fun _ _ => False) s₁') (fun _ _ => False) s₁) (fun _ _ => False) s)
    (n : Nat) (h : I n s) : codeAny (model prog w) A (.compLoop (.ListComp elt [⟨tg, iter, [], 0⟩] scope pos) 0 it acc cenv) R s := by
  refine codeAny_loop rfl I (fun n s hI => ?_) n h
  show wpAny _ A ((compTurn (.ListComp elt [⟨tg, iter, [], 0⟩] scope pos) 0 it acc cenv).onRaise (fun x => do noteFrame x cenv; theTreesLotGoes x)) _ _ s
  refine wpAny_noted ?_
  rw [compTurn_list1]
  refine wpAny_bind (wpAny_standAt (wpAny_bind (wpAny_mono (turn n s hI) (fun r s₁ h₁ => ?_) fun _ _ h' => h'.elim)))
  cases r with
  | none => exact wpAny_pure h₁
  | some v =>
    refine wpAny_bind (wpAny_mono h₁ (fun _ s₁' h₁' => ?_) fun _ _ h' => h'.elim)
    refine wpAny_bind (wpAny_mono h₁' (fun _ s₂ h₂ => ?_) fun _ _ h' => h'.elim)
    exact wpAny_bind (wpAny_bind (wpAny_mono h₂ (fun x s₃ h₃ => wpAny_bind (wpAny_mono h₃ (fun _ s₄ h₄ => wpAny_pure (wpAny_pure ⟨rfl, h₄⟩)) fun _ _ h' => h'.elim)) fun _ _ h' => h'.elim))

section
variable {C : Cx} {d : Nat} {env : Env} {p : List (Value × AV)} {l : List (Str × AV)} {Os : List AO} {X : Addr → Prop} {β : List Addr} {h h' : Heap}

/-- what a turn of a comprehension adds -/
theorem emit_prim {D : Addr} {n : Nat} {elt : Expr} {Q : List (Str × AV) → List AO → Prop}
    (he : WE C d env elt l Os (fun b l4 O4 => ∃ bs, O4[n]? = some (.lst bs) ∧ bs.length ≤ 10000 ∧ Q l4 (O4.set n (.lst (bs ++ [b]))))) (X : Addr → Prop) (β : List Addr) (h : Heap) (H : Hold C X env l β Os p h) (hD : β[n]? = some D) (A : Around) (tk : Nat) (r : Room d A)
    {R : Shared → Prop} (hR : ∀ h3 tk3 β' l' O', Hold C X env l' (β ++ β') O' p h3 → Pres env β h h3 → (∀ b ∈ β', h.get? b = none) → Q l' O' → R (C.at h3 tk3)) :
    wpAny (model P0 C.w) A (eval elt env) (fun x s₃ => wpAny (model P0 C.w) A (call (.builtin "list.append") [.ref D, x]) (fun _ s₄ => R s₄) (fun _ _ => False) s₃) (fun _ _ => False) (C.at h tk) := by
  refine wpAny_mono (he p X β h H A tk r) (fun y s2 zz => ?_) fun _ _ e => e
  obtain ⟨h2, tk2, e2, β2, b, l2, O2, k1, k2, k3, k4, ys, hys, hlen, hq⟩ := zz
  subst e2
  have hD2 : (β ++ β2)[n]? = some D := get_append n D hD
  obtain ⟨D', hD', vs2, hpl, hIs2⟩ := k1.own hys
  rw [hD2] at hD'; cases hD'
  have hm : D ∈ mine env (β ++ β2) := List.mem_cons_of_mem _ (List.mem_append_right _ (List.mem_of_getElem? hD2))
  refine wpAny_list_append_plain hpl (fun h3 hpl3 hs3 => ?_) (by rw [List.size_toArray, hIs2.1]; exact Nat.le_trans hlen (by decide +kernel))
  have hk : ∀ b' o, b' ≠ D → h2.get? b' = some o → h3.get? b' = some o := fun b' o hb' e => (hs3.2 b' hb').trans e
  have H3 := k1.setOwn (o' := .lst (ys ++ [b])) hD2 hys hs3 ⟨vs2 ++ [y], by simpa using hpl3, by simp [hIs2.1], fun i v x ev ex => by
    by_cases q : i < vs2.length
    · rw [List.getElem?_append_left q] at ev
      rw [List.getElem?_append_left (hIs2.1 ▸ q)] at ex
      exact k1.rest hm hk (hIs2.2 i v x ev ex)
    · rw [List.getElem?_append_right (Nat.not_lt.mp q)] at ev
      rw [List.getElem?_append_right (hIs2.1 ▸ Nat.not_lt.mp q), ← hIs2.1] at ex
      cases hj : i - vs2.length with
      | zero => rw [hj] at ev ex; simp only [List.getElem?_cons_zero, Option.some.injEq] at ev ex; subst ev; subst ex; exact k1.rest hm hk k4
      | succ n => rw [hj] at ev; simp at ev⟩
  refine hR h3 tk2 β2 l2 _ H3 (fun b' o e hb' => ?_) k3 hq
  refine hk b' o (fun q => ?_) (k2 b' o e hb')
  rw [q] at hb'
  exact hb' (List.mem_cons_of_mem _ (List.mem_append_right _ (List.mem_of_getElem? hD)))

noncomputable def turnOk (C : Cx) (d : Nat) (scope : Scope) (env : Env) (tg elt : Expr) (n : Nat) (vs : List (Str × AV)) (items : List AV) (J : Nat → List AV → List AO → Prop) : Prop :=
  ∀ (L : Addr) t y O2 bs, items[t]? = some y → O2[n]? = some (.lst bs) → J t bs O2 → WG C d (cEnv scope env L) tg y vs O2 (fun l3 O3 => WE C d (cEnv scope env L) elt l3 O3 (fun b l4 O4 => ∃ bs', O4[n]? = some (.lst bs') ∧ bs'.length ≤ 10000 ∧ Sub l4 vs ∧ J (t + 1) (bs' ++ [b]) (O4.set n (.lst (bs' ++ [b])))))

theorem Hold.congrX {X X' : Addr → Prop} (H : Hold C X env l β Os p h) (e : ∀ a, X a ↔ X' a) : Hold C X' env l β Os p h := by
  have : X = X' := funext fun a => propext (e a)
  subst this; exact H
theorem GK3 {tg : Expr} {y : AV} {u v w : Prop} {P : List (Str × AV) → List AO → Prop} (h : ∀ K : List (Str × AV) → List AO → Prop, (∀ l O, P l O → K l O) → u → v → w → WG C d env tg y l Os K) : u → v → w → WG C d env tg y l Os P := h P fun _ _ x => x
theorem WG_sub {tg : Expr} {a : AV} {c : List (Str × AV)} {Q : List (Str × AV) → List AO → Prop} (hs : Sub l c) (H : WG C d env tg a c Os Q) : WG C d env tg a l Os Q := fun p v hv X β h hh => H p v hv X β h (hh.sub hs)

theorem sub_self {l c : List (Str × AV)} (h : Sub l c) : Sub c c := fun e he => by
  obtain ⟨u, hu⟩ := lookup_isSome (x := e.1) (v := e.2) he
  have := h (e.1, u) (mem_lookup hu)
  rw [h e he] at this
  rw [hu, Option.some.inj this]
end
-- M41
/-- how a clause of a comprehension goes round -/
noncomputable def CompRule (C : Cx) (A : Around) (e : Expr) (k : Nat) (tg : Expr) (cenv : Env) (acc : Value) (TW : (Flow → Shared → Prop) → Shared → Prop) : Prop :=
  ∀ (it : Value) (R : Result → Shared → Prop) (I : Nat → Shared → Prop),
    (∀ n s, I n s → wpAny (model P0 C.w) A (pyNext it) (fun r s₁ => match r with
      | none => R (.ok .next) s₁
      | some v => wpAny (model P0 C.w) A (letOwnedTupleGo tg it v) (fun _ s₁' => wpAny (model P0 C.w) A (assign tg cenv v) (fun _ s₂ => TW (fun _ s₄ => ∃ m, m < n ∧ I m s₄) s₂) (fun _ _ => False) s₁') (fun _ _ => False) s₁) (fun _ _ => False) s) →
    ∀ n s, I n s → codeAny (model P0 C.w) A (.compLoop e k it acc cenv) R s

/-- the work of a turn that adds one value -/
noncomputable def TW1 (C : Cx) (A : Around) (elt : Expr) (cenv : Env) (acc : Value) (Q : Flow → Shared → Prop) (s : Shared) : Prop :=
  wpAny (model P0 C.w) A (eval elt cenv) (fun x s₃ => wpAny (model P0 C.w) A (call (.builtin "list.append") [acc, x]) (fun _ s₄ => Q .next s₄) (fun _ _ => False) s₃) (fun _ _ => False) s
theorem rule_one {C : Cx} {A : Around} {elt tg iter : Expr} {scope : Scope} {pos : Pos} {cenv : Env} {acc : Value} : CompRule C A (.ListComp elt [⟨tg, iter, [], 0⟩] scope pos) 0 tg cenv acc (TW1 C A elt cenv acc) := fun it R I turn n s hI =>
  loop_comp I (fun n s hI => wpAny_mono (turn n s hI) (fun r s₁ h₁ => by
    cases r with
    | none => exact h₁
    | some v => exact h₁) fun _ _ e => e) n hI
/-- the work of a turn that adds a value where a test holds -/
noncomputable def TWt (C : Cx) (A : Around) (elt c2 : Expr) (cenv : Env) (acc : Value) (Q : Flow → Shared → Prop) (s : Shared) : Prop :=
  wpAny (model P0 C.w) A (isTrue c2 cenv (eval c2 cenv)) (fun ok s₃ => if ok = true then TW1 C A elt cenv acc Q s₃ else Q .next s₃) (fun _ _ => False) s
theorem turn_two1 (elt tg iter tg2 iter2 c2 : Expr) (scope : Scope) (pos : Pos) (it acc : Value) (env : Env) :
    compTurn (.ListComp elt [⟨tg, iter, [], 0⟩, ⟨tg2, iter2, [c2], 0⟩] scope pos) 1 it acc env = (do
      standAt iter2.pos
      match ← pyNext it with
      | none => pure (.done .next)
      | some v =>
        letOwnedTupleGo tg2 it v
        assign tg2 env v
        let mut ok := true
        for c in [c2] do
          if ok then ok ← isTrue c env (eval c env)
        if ok then
          (do let _ ← call (.builtin "list.append") [acc, ← eval elt env])
        again (.compLoop (.ListComp elt [⟨tg, iter, [], 0⟩, ⟨tg2, iter2, [c2], 0⟩] scope pos) 1 it acc env)) := by rfl
theorem rule_two1 {C : Cx} {A : Around} {elt tg iter tg2 iter2 c2 : Expr} {scope : Scope} {pos : Pos} {cenv : Env} {acc : Value} :
    CompRule C A (.ListComp elt [⟨tg, iter, [], 0⟩, ⟨tg2, iter2, [c2], 0⟩] scope pos) 1 tg2 cenv acc (TWt C A elt c2 cenv acc) := fun it R I turn n s hI => by
  refine codeAny_loop rfl I (fun n s hI => ?_) n hI
  show wpAny _ A ((compTurn (.ListComp elt [⟨tg, iter, [], 0⟩, ⟨tg2, iter2, [c2], 0⟩] scope pos) 1 it acc cenv).onRaise (fun x => do noteFrame x cenv; theTreesLotGoes x)) _ _ s
  refine wpAny_noted ?_
  rw [turn_two1]
  refine wpAny_bind (wpAny_standAt (wpAny_bind (wpAny_mono (turn n s hI) (fun r s₁ h₁ => ?_) fun _ _ h' => h'.elim)))
  cases r with
  | none => exact wpAny_pure h₁
  | some v =>
    refine wpAny_bind (wpAny_mono h₁ (fun _ s₁' h₁' => ?_) fun _ _ h' => h'.elim)
    refine wpAny_bind (wpAny_mono h₁' (fun _ s₂ h₂ => wpAny_bind (wpAny_tests_one (wpAny_mono h₂ (fun ok s₃ h₃ => ?_) fun _ _ h' => h'.elim))) fun _ _ h' => h'.elim)
    cases ok with
    | false => exact wpAny_pure ⟨rfl, h₃⟩
    | true => exact wpAny_bind (wpAny_bind (wpAny_mono h₃ (fun x s₄ h₄ => wpAny_bind (wpAny_mono h₄ (fun _ s₅ h₅ => wpAny_pure (wpAny_pure ⟨rfl, h₅⟩)) fun _ _ h' => h'.elim)) fun _ _ h' => h'.elim))

/-- the work of a turn that goes through the inner clause -/
noncomputable def TW2 (C : Cx) (A : Around) (e : Expr) (iter2 : Expr) (cenv : Env) (acc : Value) (Q : Flow → Shared → Prop) (s : Shared) : Prop :=
  wpAny (model P0 C.w) A (eval iter2 cenv) (fun x s₁ => wpAny (model P0 C.w) A (pyIter x) (fun it s₂ => codeAny (model P0 C.w) A (.compStart e 1 it acc cenv) (fun r s' => match r with | .ok f => Q .next s' | .error _ => False) s₂) (fun _ _ => False) s₁) (fun _ _ => False) s
theorem turn_two0 (elt tg iter tg2 iter2 c2 : Expr) (scope : Scope) (pos : Pos) (it acc : Value) (env : Env) :
    compTurn (.ListComp elt [⟨tg, iter, [], 0⟩, ⟨tg2, iter2, [c2], 0⟩] scope pos) 0 it acc env = (do
      standAt iter.pos
      match ← pyNext it with
      | none => pure (.done .next)
      | some v =>
        letOwnedTupleGo tg it v
        assign tg env v
        let x ← eval iter2 env
        standAt iter2.pos
        let x ← foldedSetIterable iter2 env x
        let _ ← runOwn (.compStart (.ListComp elt [⟨tg, iter, [], 0⟩, ⟨tg2, iter2, [c2], 0⟩] scope pos) 1 (← holding [x] (pyIter x)) acc env) env
        again (.compLoop (.ListComp elt [⟨tg, iter, [], 0⟩, ⟨tg2, iter2, [c2], 0⟩] scope pos) 0 it acc env)) := by rfl
theorem rule_two0 {C : Cx} {A : Around} {elt tg iter tg2 iter2 c2 : Expr} {scope : Scope} {pos : Pos} {cenv : Env} {acc : Value} (hs : ∀ x, foldedSetIterable iter2 cenv x = pure x) :
    CompRule C A (.ListComp elt [⟨tg, iter, [], 0⟩, ⟨tg2, iter2, [c2], 0⟩] scope pos) 0 tg cenv acc (TW2 C A (.ListComp elt [⟨tg, iter, [], 0⟩, ⟨tg2, iter2, [c2], 0⟩] scope pos) iter2 cenv acc) := fun it R I turn n s hI => by
  refine codeAny_loop rfl I (fun n s hI => ?_) n hI
  show wpAny _ A ((compTurn (.ListComp elt [⟨tg, iter, [], 0⟩, ⟨tg2, iter2, [c2], 0⟩] scope pos) 0 it acc cenv).onRaise (fun x => do noteFrame x cenv; theTreesLotGoes x)) _ _ s
  refine wpAny_noted ?_
  rw [turn_two0]
  refine wpAny_bind (wpAny_standAt (wpAny_bind (wpAny_mono (turn n s hI) (fun r s₁ h₁ => ?_) fun _ _ h' => h'.elim)))
  cases r with
  | none => exact wpAny_pure h₁
  | some v =>
    refine wpAny_bind (wpAny_mono h₁ (fun _ s₁' h₁' => ?_) fun _ _ h' => h'.elim)
    refine wpAny_bind (wpAny_mono h₁' (fun _ s₂ h₂ => ?_) fun _ _ h' => h'.elim)
    refine wpAny_bind (wpAny_mono h₂ (fun x s₃ h₃ => ?_) fun _ _ h' => h'.elim)
    refine wpAny_bind (wpAny_standAt (wpAny_bind (wpAny_of_eq (hs x) ?_)))
    refine wpAny_bind (wpAny_holding (wpAny_mono h₃ (fun it2 s₄ h₄ => ?_) fun _ _ h' => h'.elim))
    refine wpAny_bind (wpAny_runOwn (codeAny_mono h₄ fun r s₅ h₅ => ?_))
    cases r with
    | ok f => exact wpAny_pure ⟨rfl, h₅⟩
    | error e => exact h₅.elim

theorem compStart_at {prog : Program} {w : World} {A : Around} {elt tg iter tg2 iter2 c2 : Expr} {scope : Scope} {pos : Pos} {it acc : Value} {env : Env} {R : Result → Shared → Prop} {s : Shared}
    (h0 : codeAny (model prog w) A (.compLoop (.ListComp elt [⟨tg, iter, [], 0⟩, ⟨tg2, iter2, [c2], 0⟩] scope pos) 1 it acc env) R s)
    (h : wpAny (model prog w) A (pyIter it) (fun it' s' => codeAny (model prog w) A (.compLoop (.ListComp elt [⟨tg, iter, [], 0⟩, ⟨tg2, iter2, [c2], 0⟩] scope pos) 1 it' acc env) R s')
      (fun _ _ => False) s) :
    codeAny (model prog w) A (.compStart (.ListComp elt [⟨tg, iter, [], 0⟩, ⟨tg2, iter2, [c2], 0⟩] scope pos) 1 it acc env) R s := by
  refine codeAny_of_tree ?_
  show wpAny _ _ ((compStart (.ListComp elt [⟨tg, iter, [], 0⟩, ⟨tg2, iter2, [c2], 0⟩] scope pos) 1 it acc env).onRaise (fun x => do noteFrame x env; standAt theWindowsPlace)) _ _ s
  refine wpAny_notedAt ?_
  unfold compStart
  show wpAny _ _ (ask >>= _) _ _ s
  refine wpAny_bind (wpAny_askSetting (wpAny_ite ?_))
  split
  · first
      | exact wpAny_bind (wpAny_pure (wpAny_pure (And.intro rfl h0)))
      | exact wpAny_pure (And.intro rfl h0)
  · refine wpAny_bind (wpAny_rule ?_)
    show wpAny _ _ (standAt iter2.pos >>= _) _ _ s
    exact wpAny_bind (wpAny_standAt (wpAny_bind (wpAny_mono h (fun it' s' h' => wpAny_pure (And.intro rfl h')) fun _ _ x => x.elim)))

section
variable {C : Cx} {d : Nat} {env : Env} {p : List (Value × AV)} {l : List (Str × AV)} {Os : List AO} {X : Addr → Prop} {β : List Addr} {h h' : Heap}
/-- what a turn of a comprehension comes to -/
noncomputable def turnOkG (C : Cx) (A : Around) (scope : Scope) (env : Env) (p : List (Value × AV)) (tg : Expr) (d n : Nat) (vs : List (Str × AV)) (items : List AV) (J : Nat → List AV → List AO → Prop) (TW : Addr → Addr → (Flow → Shared → Prop) → Shared → Prop) : Prop :=
  ∀ (L D : Addr) t y O2 bs, items[t]? = some y → O2[n]? = some (.lst bs) → J t bs O2 → WG C d (cEnv scope env L) tg y vs O2 (fun l3 O3 => ∀ X β h, Hold C X (cEnv scope env L) l3 β O3 ((.ref D, .own n) :: p) h → ∀ tk,
    TW L D (fun f s' => Ends C (Post C X (cEnv scope env L) β ((.ref D, .own n) :: p) h RF (fun f l4 O4 => f = .next ∧ Sub l4 vs ∧ ∃ bs', O4[n]? = some (.lst bs') ∧ J (t + 1) bs' O4) f) s') (C.at h tk))

/-- a comprehension, by the work of its outermost turns -/
theorem comp_coreG {elt tg iter : Expr} {rest : List Comprehension} {scope : Scope} {pos fp0 : Pos} {use : Option (Value → Sem Unit)} {A : Around} {tk : Nat} {R : Value → Shared → Prop} {TW : Addr → Addr → (Flow → Shared → Prop) → Shared → Prop} (hcl : closureFor scope env = pure (clOf scope env)) (hkd : scope.kind = .function) (hnn : (scope.names.map (·.1)).Nodup)
    (r : Room d A) (H : Hold C X env l β Os p h) (hrule : ∀ L D, CompRule C A (.ListComp elt (⟨tg, iter, [], 0⟩ :: rest) scope pos) 0 tg (cEnv scope env L) (.ref D) (TW L D)) (hmono : ∀ L D Q Q' s, TW L D Q s → (∀ s, Q .next s → Q' .next s) → TW L D Q' s)
    (hi : WE C d env iter l Os (fun a l1 O1 => ∃ items vs, Iters C env tg a items ∧ CompOk scope env vs ∧ Sub l1 vs ∧ ∃ J : Nat → List AV → List AO → Prop, J 0 [] (O1 ++ [.lst []]) ∧ turnOkG C A scope env p tg d O1.length vs items J TW ∧
      ∀ (β1 β4 : List Addr) (D L : Addr) O2 bs h1 h5 tk5, Hold C X env l1 (β ++ β1) O1 p h1 → Pres env β h h1 → (∀ b ∈ β1, h.get? b = none) → h1.get? D = none → h1.get? L = none → (∀ b ∈ β4, h1.get? b = none) → (∃ m, h5.Ns L m) → D ≠ L →
        (∀ h6, (∀ b o, b ≠ L → h5.get? b = some o → h6.get? b = some o) → Hold C X env l1 (β ++ β1 ++ ([D] ++ β4)) O2 p h6 ∧ Pres env (β ++ β1) h1 h6) →
        O2[O1.length]? = some (.lst bs) → J items.length bs O2 → compPost (model P0 C.w) A (fun _ _ => False) use R (.ref D) L (.ok .next) (C.at h5 tk5)))
    (hs : ∀ x, foldedSetIterable iter env x = pure x := by intro _; rfl) :
    wpAny (model P0 C.w) A (comprehension (.ListComp elt (⟨tg, iter, [], 0⟩ :: rest) scope pos) scope env fp0 (newList []) false (eval iter env) use) R (fun _ _ => False) (C.at h tk) := by
  refine wpAny_comprehension_free (g := ⟨tg, iter, [], 0⟩) (gs := rest) rfl hs hcl hkd (fun x hx hl => lookup_of_nodup hnn (by rw [← hl]; exact hx)) ?_
  refine wpAny_mono (hi p X β h H A tk r) (fun v s1 zz => ?_) fun _ _ e => e.elim
  obtain ⟨h1, tk1, e1, β1, a, l1, O1, g1, g2, g3, g4, items, vs, ⟨raw, hit⟩, K, hsub, J, hJ0, hturn, hend⟩ := zz
  subst e1
  refine hit (g1.push g4) (.head _) d A tk1 r _ fun I fp wr P Pv St h2 tk2 W st0 keep hfp hwr hP hPP => ?_
  refine wpAny_newObj_type (wp_newCompEnv ?_)
  dsimp only
  generalize hhb : h2.push { cls := .type "list", dict := none, data := .seq ([] : List Value).toArray } = hb
  generalize hLL : hb.objs.size = L
  generalize hh4 : pushCells (hb.push { cls := .type "dict", data := .dict #[] }) scope.names = h4
  generalize hDD : h2.objs.size = D
  have hD2 : h2.get? D = none := by rw [← hDD]; exact get_size h2
  have hDb : hb.get? D = some { cls := .type "list", data := .seq #[] } := by rw [← hhb, ← hDD]; exact Heap.get?_push_size _ rfl
  have kb : ∀ b o, h2.get? b = some o → hb.get? b = some o := fun b o e => by rw [← hhb]; exact Heap.get?_push_of_some _ e
  have hD1 : h1.get? D = none := by
    cases e : h1.get? D with
    | none => rfl
    | some o => rw [keep D o e] at hD2; cases hD2
  have hb1 : ∀ b o, h1.get? b = some o → b ∉ wr := fun b o e hb => by rw [hwr b hb] at e; cases e
  have hm1 : ∀ b ∈ mine env (β ++ β1), b ∉ wr := fun b hb hw => by obtain ⟨_, _, o, e⟩ := g1.new b hb; exact hb1 b o e hw
  have H2 : Hold C (fun a => X a ∨ a ∈ wr) env l1 (β ++ β1) O1 p h2 := (g1.into keep hwr (W.ex 0 h2 st0)).1
  obtain ⟨G0, k4, hL2, hA2, hC2⟩ := enter_comp H2 K hsub hLL hh4.symm kb hD2 hDb
  have hA : ∀ c ∈ ownCells (cEnv scope env L), h1.get? c = none ∨ ∃ x, (x, c) ∈ clOf scope env ∧ env.kindOf x = some .cell ∧ c ∈ ownCells env := fun c hc => (hA2 c hc).imp (fun q => by
    cases e : h1.get? c with
    | none => rfl
    | some o => rw [keep c o e] at q; cases q) id
  have hL1 : h1.get? L = none := by
    cases e : h1.get? L with
    | none => rfl
    | some o => rw [keep L o e] at hL2; cases hL2
  have hXX : ∀ a, outX (fun a => X a ∨ a ∈ wr) env (cEnv scope env L) a ↔ (outX X env (cEnv scope env L) a ∨ a ∈ wr) := fun a => by
    unfold outX
    constructor
    · rintro ((q | q) | q)
      · exact .inl (.inl q)
      · exact .inr q
      · exact .inl (.inr q)
    · rintro ((q | q) | q)
      · exact .inl (.inl q)
      · exact .inr q
      · exact .inl (.inr q)
  have G1 := (G0.congrX hXX).push (v := .ref D) (a := .own O1.length) (.own _ _ (by rw [← g1.len]; simp))
  -- the loop
  have hmc : ∀ b, b ∈ mine (cEnv scope env L) (β ++ β1 ++ [D]) → b ∈ mine env (β ++ β1) ∨ h2.get? b = none := fun b hb => by
    rcases List.mem_cons.mp hb with q | q
    · exact .inr (by rw [show b = L from q]; exact hL2)
    · rcases List.mem_append.mp q with q | q
      · rcases hA2 b q with q | ⟨_, _, _, q⟩
        · exact .inr q
        · exact .inl (List.mem_cons_of_mem _ (List.mem_append_left _ q))
      · rcases List.mem_append.mp q with q | q
        · exact .inl (List.mem_cons_of_mem _ (List.mem_append_right _ q))
        · exact .inr (by rw [List.mem_singleton.mp q]; exact hD2)
  have loop : codeAny (model P0 C.w) A (.compLoop (.ListComp elt (⟨tg, iter, [], 0⟩ :: rest) scope pos) 0 (.ref I) (.ref D) (cEnv scope env L)) (compPost (model P0 C.w) A (fun _ _ => False) use R (.ref D) L) (C.at h4 tk2) := by
    have fin : ∀ s, RR2 C (outX X env (cEnv scope env L)) (cEnv scope env L) ((.ref D, .own O1.length) :: p) wr (β ++ β1 ++ [D]) h4 (fun af l2 O2 => af = .next ∧ Sub l2 vs ∧ ∃ bs, O2[O1.length]? = some (.lst bs) ∧ J items.length bs O2) .next s → compPost (model P0 C.w) A (fun _ _ => False) use R (.ref D) L (.ok .next) s := by
      rintro s ⟨h5, tk5, β4, af, l4, O4, rfl, q1, q2, q3, q4, q5, q6, bs, q7, q8⟩
      have f4 : ∀ b ∈ β4, h1.get? b = none := fun b hb => by
        cases e : h1.get? b with
        | none => rfl
        | some o => have := k4 b o (kb b o (keep b o e)); rw [q3 b hb] at this; cases this
      have hDL : D ≠ L := fun q => by have := Heap.lt_size hDb; rw [hLL, q] at this; exact Nat.lt_irrefl _ this
      refine hend β1 β4 D L O4 bs h1 h5 tk5 g1 g2 g3 hD1 hL1 f4 q1.ns hDL (fun h6 hk6 => ?_) q7 q8
      obtain ⟨w1, w2, w3⟩ := leave_comp g1 K hsub q6 hD1 hL1 hA hC2 (q1.weak (p' := p) fun _ hx => .tail _ hx) (fun b o e hb => q2 b o (k4 b o (kb b o (keep b o e))) hb (hb1 b o e)) f4 hk6
      exact ⟨w1, w2⟩
    refine For_gen2 (Q := fun af l2 O2 => af = .next ∧ Sub l2 vs ∧ ∃ bs, O2[O1.length]? = some (.lst bs) ∧ J items.length bs O2) (TW := TW L D)
      (G := fun s => codeAny (model P0 C.w) A (.compLoop (.ListComp elt (⟨tg, iter, [], 0⟩ :: rest) scope pos) 0 (.ref I) (.ref D) (cEnv scope env L)) (compPost (model P0 C.w) A (fun _ _ => False) use R (.ref D) L) s)
      (fun Q Q' s hq hqq => hmono L D Q Q' s hq fun s => hqq .next s)
      r G1 W (W.frame _ _ _ st0 fun b hb o e => k4 b o (kb b o e)) (fun b hb => ?_) (fun i u y hu hy => ?_) (fun a ha hw => ?_) (fun x c e => ?_) hPP (fun done l2 O2 => Sub l2 vs ∧ ∃ bs, O2[O1.length]? = some (.lst bs) ∧ J done.length bs O2)
      ⟨sub_self hsub, [], by rw [List.getElem?_append_right (Nat.le_refl _), Nat.sub_self]; rfl, hJ0⟩ ?_ ?_ ?_
    · rcases hfp b hb with ⟨h1', o, h2'⟩
      refine ⟨fun hm => ?_, o, k4 b o (kb b o h2')⟩
      rcases hmc b hm with q | q
      · exact h1' q
      · rw [q] at h2'; cases h2'
    · have hi := hP i u y hu hy
      refine hi.stable (fun b o _ e => k4 b o (kb b o (keep b o e))) (fun b o hb' e hx => ?_) get_append
      have e2 := keep b o e
      rcases hx with (hx | hx) | hx
      · rcases hx with hx | hx
        · exact hb' (.inl hx)
        · exact hb' (.inr (by
            rcases List.mem_cons.mp hx.1 with q | q
            · rw [q]; exact List.mem_cons_self ..
            · exact List.mem_cons_of_mem _ (List.mem_append_left _ q)))
      · exact hb1 b o e hx
      · rcases hmc b hx with q | q
        · exact hb' (.inr q)
        · rw [q] at e2; cases e2
    · rcases ha with ha | ha
      · obtain ⟨_, o, e⟩ := g1.xin a ha; exact hb1 a o e hw
      · refine hm1 a ?_ hw
        rcases List.mem_cons.mp ha.1 with q | q
        · rw [q]; exact List.mem_cons_self ..
        · exact List.mem_cons_of_mem _ (List.mem_append_left _ q)
    · have hcell : c ∉ ownCells (cEnv scope env L) → c ∉ wr := fun hc => by
        have hm := mem_lookup e
        rw [show (cEnv scope env L).cells = cellsFrom (L + 1) scope.names [] ++ clOf scope env from cellsFrom_split _ _ _] at hm
        rcases List.mem_append.mp hm with q | q
        · refine absurd ?_ hc
          unfold ownCells
          refine List.mem_map.mpr ⟨(x, c), List.mem_filter.mpr ⟨mem_lookup e, ?_⟩, rfl⟩
          rw [show (cEnv scope env L).kindOf x = some .cell from by rw [cenv_kind K (cellsFrom_name _ _ _ _ q)]; rfl]; rfl
        · obtain ⟨_, v, o, ho, _⟩ := g1.cl x c (cl_mem q).1
          exact hb1 c o ho
      by_cases hc : c ∈ ownCells (cEnv scope env L)
      · refine ⟨fun hw => ?_, .inl hc⟩
        rcases hA2 c hc with q | ⟨_, _, _, q⟩
        · obtain ⟨o, ho⟩ := W.ex 0 h2 st0 c hw; rw [q] at ho; cases ho
        · exact hm1 c (List.mem_cons_of_mem _ (List.mem_append_left _ q)) hw
      · refine ⟨hcell hc, ?_⟩
        rcases (G1.cl x c e).1 with q | q | q
        · exact .inl q
        · exact .inr q
        · exact absurd q (hcell hc)
    · intro I' turn n s hI
      refine hrule L D _ _ I' (fun n s hI => wpAny_mono (turn n s hI) (fun r s₁ h₁ => ?_) fun _ _ e => e) n s hI
      cases r with
      | none => exact fin _ h₁
      | some v =>
        refine wpAny_mono h₁ (fun _ s₂ h₂ => wpAny_mono h₂ (fun _ s₃ h₃ => hmono _ _ _ _ _ h₃ fun s₄ h₄ => h₄) fun _ _ e => e) fun _ _ e => e
    · rintro done y rest' l2 O2 e ⟨hs2, bs, ho, hJ⟩
      have hy := take_len e
      refine WG_sub hs2 ?_
      intro p' v' hv'
      refine (hturn L D done.length y O2 bs hy ho hJ p' v' hv').mono fun _ l3 O3 h3 => ?_
      intro X' β' h' H' tk'
      refine hmono _ _ _ _ _ (h3 X' β' h' H' tk') fun s' ⟨h'', tk'', e, post⟩ => ⟨h'', tk'', e, post.mono fun f l4 O4 zz => ?_⟩
      obtain ⟨e1, e2, bs', e3, e4⟩ := zz
      subst e1
      exact ⟨e2, bs', e3, by rw [List.length_append]; exact e4⟩
    · rintro l2 O2 ⟨hs2, bs, ho, hJ⟩
      exact ⟨rfl, hs2, bs, ho, hJ⟩
  exact codeAny_compStart_list loop (W.self 0 _ _ _ (W.frame _ _ _ st0 fun b hb o e => k4 b o (kb b o e)) loop)
end
-- M28
section
variable {C : Cx} {d : Nat} {env : Env} {p : List (Value × AV)} {l : List (Str × AV)} {Os : List AO} {X : Addr → Prop} {β : List Addr} {h h' : Heap}

theorem TW1.mono {C : Cx} {A : Around} {elt : Expr} {cenv : Env} {acc : Value} {Q Q' : Flow → Shared → Prop} {s : Shared} (hq : TW1 C A elt cenv acc Q s) (hqq : ∀ s, Q .next s → Q' .next s) : TW1 C A elt cenv acc Q' s :=
  wpAny_mono hq (fun _ _ h => wpAny_mono h (fun _ _ h => hqq _ h) fun _ _ e => e) fun _ _ e => e
theorem turnG {A : Around} {scope : Scope} {tg elt : Expr} {n : Nat} {vs : List (Str × AV)} {items : List AV} {J : Nat → List AV → List AO → Prop} (H : turnOk C d scope env tg elt n vs items J) (r : Room d A) :
    turnOkG C A scope env p tg d n vs items J (fun L D => TW1 C A elt (cEnv scope env L) (.ref D)) := by
  intro L D t y O2 bs hy ho hJ p' v hv
  refine (H L t y O2 bs hy ho hJ p' v hv).mono fun _ l3 O3 h7 => ?_
  intro X' β' h' H' tk'
  have hD' : β'[n]? = some D := by
    have := H'.pend _ _ (List.mem_cons_self ..)
    cases this with | own _ _ h => exact h
  refine emit_prim (Q := fun l4 O4 => Sub l4 vs ∧ ∃ bs, O4[n]? = some (.lst bs) ∧ J (t + 1) bs O4) (n := n) (fun p'' => (h7 p'').mono fun b l4 O4 zz => ?_) X' β' h' H' hD' A tk' r fun h3 tk3 β3 l' O' k1 k2 k3 k4 => ⟨h3, tk3, rfl, β3, .next, l', O', k1, k2, k3, .next, rfl, k4⟩
  obtain ⟨bs', w1, w2, w3, w4⟩ := zz
  exact ⟨bs', w1, w2, w3, bs' ++ [b], List.getElem?_set_self (List.getElem?_eq_some_iff.mp w1).1, w4⟩

/-- a comprehension of one clause: a list of the frame's own -/
theorem E_Comp {elt tg iter : Expr} {scope : Scope} {pos : Pos} {Q : AV → List (Str × AV) → List AO → Prop} (hcl : closureFor scope env = pure (clOf scope env)) (hkd : scope.kind = .function) (hnn : (scope.names.map (·.1)).Nodup)
    (hi : WE C d env iter l Os (fun a l1 O1 => ∃ items vs, Iters C env tg a items ∧ CompOk scope env vs ∧ Sub l1 vs ∧ ∃ J : Nat → List AV → List AO → Prop, J 0 [] (O1 ++ [.lst []]) ∧ turnOk C d scope env tg elt O1.length vs items J ∧
      ∀ O2 bs, O2[O1.length]? = some (.lst bs) → J items.length bs O2 → Q (.own O1.length) l1 O2))
    (hs : ∀ x, foldedSetIterable iter env x = pure x := by intro _; rfl) : WE C d env (.ListComp elt [⟨tg, iter, [], 0⟩] scope pos) l Os Q := fun p X β h H A tk r => by
  rw [eval_ListComp]
  refine comp_coreG (TW := fun L D => TW1 C A elt (cEnv scope env L) (.ref D)) hcl hkd hnn r H (fun L D => rule_one) (fun L D Q Q' s hq hqq => hq.mono hqq) (fun p' => (hi p').mono fun a l1 O1 zz => ?_) hs
  obtain ⟨items, vs, h1, h2, h3, J, h4, h5, h6⟩ := zz
  refine ⟨items, vs, h1, h2, h3, J, h4, turnG h5 r, fun β1 β4 D L O2 bs h1' h5' tk5 g1 x1 f1 fD fL f4 hns hDL leave ho hJ => ?_⟩
  obtain ⟨m, hm⟩ := hns
  refine ⟨m, hm, fun h6' hs6 => ?_⟩
  obtain ⟨w, w2⟩ := leave h6' fun b o hb e => (hs6.2 b hb).trans e
  have hw : Hold C X env l1 (β ++ (β1 ++ ([D] ++ β4))) O2 p h6' := by rw [← List.append_assoc]; exact w
  refine ⟨h6', tk5, rfl, β1 ++ ([D] ++ β4), .own O1.length, l1, O2, hw, x1.trans f1 w2, fun b hb => ?_, .own _ _ ?_, h6 O2 bs ho hJ⟩
  · have go : ∀ b, h1'.get? b = none → h.get? b = none := fun b q => by
      cases e : h.get? b with
      | none => rfl
      | some o => obtain ⟨o', e'⟩ := H.still g1 x1 b o e; rw [q] at e'; cases e'
    rcases List.mem_append.mp hb with q | q
    · exact f1 b q
    · rcases List.mem_append.mp q with q | q
      · rw [List.mem_singleton.mp q]; exact go D fD
      · exact go b (f4 b q)
  · rw [← g1.len, ← List.append_assoc, List.getElem?_append_right (Nat.le_refl _), Nat.sub_self]; rfl

theorem is_back {C : Cx} {F F' F0 : Addr → Prop} {β : List Addr} {D : Addr} {h h0 : Heap} {v : Value} {x : AV} (H : Is C F (β ++ [D]) h v x) : ∀ {v0 : Value}, Is C F0 β h0 v0 x → (∀ b, ¬ F b → ¬ F' b) → Is C F' β h v x := by
  induction H with
  | none => intros; exact .none
  | bool b => intros; exact .bool b
  | int i t => intros; exact .int i t
  | fn i a hi h => intros; exact .fn i a hi h
  | own i a h =>
    intro v0 H0 hF
    cases H0 with
    | own _ a0 h1 =>
      rw [List.getElem?_append_left (List.getElem?_eq_some_iff.mp h1).1] at h
      exact .own i a h
  | tup hf ht hl _ ih =>
    intro v0 H0 hF
    cases H0 with
    | tup hf0 ht0 hl0 hx0 =>
      refine .tup (hF _ hf) ht hl fun i u y eu ey => ?_
      have hlt := (List.getElem?_eq_some_iff.mp ey).1
      exact ih i u y eu ey (hx0 i _ y (List.getElem?_eq_getElem (by rw [hl0]; exact hlt)) ey) hF
  | list hf ht hl _ ih =>
    intro v0 H0 hF
    cases H0 with
    | list hf0 ht0 hl0 hx0 =>
      refine .list (hF _ hf) ht hl fun i u y eu ey => ?_
      have hlt := (List.getElem?_eq_some_iff.mp ey).1
      exact ih i u y eu ey (hx0 i _ y (List.getElem?_eq_getElem (by rw [hl0]; exact hlt)) ey) hF
  | dict hf hm hd hks hl hes => intro v0 H0 hF; exact .dict (hF _ hf) hm hd (fun x hx => hF _ (hks x hx)) hl hes
  | rng hf hr hs hn => intro v0 H0 hF; exact .rng (hF _ hf) hr hs hn
  | slc hf hr h1 h2 => intro v0 H0 hF; exact .slc (hF _ hf) hr h1 h2

/-- the last of the frame's own things, no more its own -/
theorem Hold.dropLast {D : Addr} {O2 : List AO} {oD : AO} {h1 : Heap} (H : Hold C X env l (β ++ [D]) (O2 ++ [oD]) p h) (H1 : Hold C X env l β Os p h1) (hO : ∀ o ∈ O2, NownO o) : Hold C X env l β O2 p h := by
  have hm : ∀ b, b ∈ mine env β → b ∈ mine env (β ++ [D]) := fun b hb => by rw [mine_append]; exact List.mem_append_left _ hb
  have hF : ∀ b, ¬ Fb X env (β ++ [D]) b → ¬ Fb X env β b := fun b hb hx => hb (hx.imp id (hm b))
  have hlen : β.length = O2.length := by have := H.len; simpa using this
  have hnd := H.nd
  rw [mine_append, List.nodup_append] at hnd
  refine ⟨H.ok, H.base, H.xin, hnd.1, fun a ha => H.new a (hm a ha), H.ns, H.cl, H.cown, H.capart, fun x av e => ?_, hlen, fun i a o ha ho => ?_, fun v av hp => ?_⟩
  · obtain ⟨v, hv, hi⟩ := H.vars x av e
    obtain ⟨v1, _, hi1⟩ := H1.vars x av e
    exact ⟨v, hv, is_back hi hi1 hF⟩
  · have ho' : (O2 ++ [oD])[i]? = some o := by rw [List.getElem?_append_left (List.getElem?_eq_some_iff.mp ho).1]; exact ho
    exact (H.objs i a o (get_append i a ha) ho').re (hO o (List.mem_of_getElem? ho)) (fun _ e => e) (fun _ _ _ e => e) fun b _ hb _ => hF b hb
  · exact is_back (H.pend v av hp) (H1.pend v av hp) hF

/-- a frozen list out of a comprehension -/
theorem comp_frozen {l1 : List (Str × AV)} {O1 O3 : List AO} {bs : List AV} {β1 β4 : List Addr} {D : Addr} {h1 h6 : Heap} (g1 : Hold C X env l1 (β ++ β1) O1 p h1) (w : Hold C X env l1 (β ++ β1 ++ ([D] ++ β4)) (O3 ++ [.lst bs]) p h6) (e2 : O3.length = O1.length)
    (e3 : ∀ o ∈ O3, NownO o) (e4 : ∀ b ∈ bs, Nown b) : Hold C X env l1 (β ++ β1) O3 p h6 ∧ Is C (Fb X env (β ++ β1)) (β ++ β1) h6 (.ref D) (.list bs) := by
  have hl := w.len
  have hl1 := g1.len
  have : β4 = [] := by
    simp only [List.length_append, List.length_singleton] at hl hl1
    exact List.eq_nil_of_length_eq_zero (by lia  )
  subst this
  rw [List.append_nil] at w
  refine ⟨w.dropLast g1 e3, ?_⟩
  obtain ⟨D', hD', vs, hpl, hIs⟩ := w.own (i := O1.length) (o := .lst bs) (by rw [← e2, List.getElem?_append_right (Nat.le_refl _), Nat.sub_self]; rfl)
  have : D' = D := by
    rw [← g1.len, List.getElem?_append_right (Nat.le_refl _), Nat.sub_self] at hD'
    simpa using hD'.symm
  subst this
  have hDm : D' ∈ mine env (β ++ β1 ++ [D']) := by rw [mine_append]; exact List.mem_append_right _ (List.mem_singleton.mpr rfl)
  refine .list (fun hx => ?_) hpl.isList hIs.1 fun i v x e e' => (is_nown (hIs.2 i v x e e') (e4 x (List.mem_of_getElem? e')) _).stable (fun _ _ _ e => e) (fun b o hb _ hx => hb (hx.imp id fun q => by rw [mine_append]; exact List.mem_append_left _ q)) fun _ _ e => e
  rcases hx with hx | hx
  · exact (w.new D' hDm).2.1 hx
  · have := w.nd
    rw [mine_append, List.nodup_append] at this
    exact this.2.2 D' hx D' (List.mem_singleton.mpr rfl) rfl

/-- a comprehension of one clause: a list that nothing changes -/
theorem E_CompF {elt tg iter : Expr} {scope : Scope} {pos : Pos} {Q : AV → List (Str × AV) → List AO → Prop} (hcl : closureFor scope env = pure (clOf scope env)) (hkd : scope.kind = .function) (hnn : (scope.names.map (·.1)).Nodup)
    (hi : WE C d env iter l Os (fun a l1 O1 => ∃ items vs, Iters C env tg a items ∧ CompOk scope env vs ∧ Sub l1 vs ∧ ∃ J : Nat → List AV → List AO → Prop, J 0 [] (O1 ++ [.lst []]) ∧ turnOk C d scope env tg elt O1.length vs items J ∧
      ∀ O2 bs, O2[O1.length]? = some (.lst bs) → J items.length bs O2 → ∃ O3, O2 = O3 ++ [.lst bs] ∧ O3.length = O1.length ∧ (∀ o ∈ O3, NownO o) ∧ (∀ b ∈ bs, Nown b) ∧ Q (.list bs) l1 O3))
    (hs : ∀ x, foldedSetIterable iter env x = pure x := by intro _; rfl) : WE C d env (.ListComp elt [⟨tg, iter, [], 0⟩] scope pos) l Os Q := fun p X β h H A tk r => by
  rw [eval_ListComp]
  refine comp_coreG (TW := fun L D => TW1 C A elt (cEnv scope env L) (.ref D)) hcl hkd hnn r H (fun L D => rule_one) (fun L D Q Q' s hq hqq => hq.mono hqq) (fun p' => (hi p').mono fun a l1 O1 zz => ?_) hs
  obtain ⟨items, vs, h1, h2, h3, J, h4, h5, h6⟩ := zz
  refine ⟨items, vs, h1, h2, h3, J, h4, turnG h5 r, fun β1 β4 D L O2 bs h1' h5' tk5 g1 x1 f1 fD fL f4 hns hDL leave ho hJ => ?_⟩
  obtain ⟨m, hm⟩ := hns
  refine ⟨m, hm, fun h6' hs6 => ?_⟩
  obtain ⟨w, w2⟩ := leave h6' fun b o hb e => (hs6.2 b hb).trans e
  obtain ⟨O3, e1, e2, e3, e4, e5⟩ := h6 O2 bs ho hJ
  subst e1
  obtain ⟨g3, g4⟩ := comp_frozen g1 w e2 e3 e4
  exact ⟨h6', tk5, rfl, β1, .list bs, l1, O3, g3, x1.trans f1 w2, f1, g4, e5⟩
end
-- M29a
section
variable {C : Cx} {d : Nat} {env : Env} {l : List (Str × AV)} {Os : List AO}
/-- a constant of the module -/
noncomputable def ConstIs (C : Cx) (x : Str) (av : AV) : Prop := ∃ u, C.mg x = some u ∧ Is C (fun a => C.s.heap.get? a = none) [] C.s.heap u av
theorem E_const {x : Str} {pos : Pos} {av : AV} {Q : AV → List (Str × AV) → List AO → Prop} (hc : ConstIs C x av) (hk : env.kindOf x = some .globalImplicit) (hQ : Q av l Os) (h1 : (x == ("__debug__" : Str)) = false := by decide +kernel) :
    WE C d env (.Name x pos) l Os Q := fun p =>
  Wi.prim (x := av) (fun X β h H A tk r Q' hQ' => by
    obtain ⟨u, hg, hu⟩ := hc
    refine Name_function_global H.ok.kind hk (loadGlobal_global (mg := C.mg) ?_ (v := u) hg (hQ' _ h tk (fun _ _ e => e) (hu.stable (fun b o _ e => H.base b o e) (fun b o hb e hx => hb ?_) fun _ _ e => by simp at e))) h1
    · rw [H.ok.globals]; exact C.g.keeps H.base
    · rcases hx with hx | hx
      · exact (H.xin b hx).1
      · exact (H.new b hx).1) hQ
end
structure BS where
  rows : List (List Int)
  pl : List Nat
  odd : Bool
  before : Int
noncomputable def clrStep (rows : List (List Int)) (top col at_ : Nat) (before : Int) : Option (List (List Int)) :=
  match rows[at_]?, rows[top]? with
  | some r, some h => match h[col]?, r[col]? with
    | some p, some o => if r.length = h.length ∧ r.length ≤ 100 ∧ r.all smallI = true ∧ h.all smallI = true ∧ before ≠ 0 ∧ before.natAbs < 16 then some (rows.set at_ (clr r h p o before)) else none
    | _, _ => none
  | _, _ => none
noncomputable def clrAll (top col : Nat) (before : Int) : Nat → Nat → List (List Int) → Option (List (List Int))
  | 0, _, rows => some rows
  | k + 1, at_, rows => (clrStep rows top col at_ before).bind (clrAll top col before k (at_ + 1))
noncomputable def rowsOk (rows : List (List Int)) (col : Nat) : Bool := decide (rows.length ≤ 100) && rows.all fun r => decide (col < r.length) && decide (r.length ≤ 100) && r.all smallI
noncomputable def swapRows (rows : List (List Int)) (i j : Nat) : Option (List (List Int)) := match rows[i]?, rows[j]? with
  | some a, some b => some ((rows.set i b).set j a)
  | _, _ => none
noncomputable def stepM (col : Nat) (s : BS) : Option BS :=
  if rowsOk s.rows col = true ∧ s.pl.length ≤ s.rows.length then
    let top := s.pl.length
    let spot := pivAt s.rows col (s.rows.length - top) top
    if spot < 0 then some s else
      let sp := spot.toNat
      (if sp = top then some s.rows else swapRows s.rows top sp).bind fun rows1 =>
        (clrAll top col s.before (rows1.length - (top + 1)) (top + 1) rows1).bind fun rows2 =>
          match (rows2[top]?).bind (·[col]?) with
          | some b => some ⟨rows2, s.pl ++ [col], if sp = top then s.odd else !s.odd, b⟩
          | none => none
  else none
noncomputable def stM : Nat → Nat → BS → Option BS
  | 0, _, s => some s
  | k + 1, col, s => (stepM col s).bind (stM k (col + 1))
-- M29
theorem pivAt_range (rows : List (List Int)) (col : Nat) : ∀ k at_, pivAt rows col k at_ = -1 ∨ ∃ j : Nat, at_ ≤ j ∧ j < at_ + k ∧ pivAt rows col k at_ = j
  | 0, _ => .inl rfl
  | k + 1, at_ => by
    unfold pivAt
    split
    · exact .inr ⟨at_, Nat.le_refl _, by walk_at "om", rfl⟩
    · rcases pivAt_range rows col k (at_ + 1) with h | ⟨j, h1, h2, h3⟩
      · exact .inl h
      · exact .inr ⟨j, by lia         , by lia         , h3⟩
theorem seqO {o : AO} {xs : List AV} {rest : List AO} (h : SeqOf [o] (.own 0) = some xs) : ListOf (o :: rest) 0 = some xs ∧ SeqOf (o :: rest) (.own 0) = some xs ∧ ((∀ x ∈ xs, Nown x) → NownO o) := by
  cases o with
  | lst ys => cases h; exact ⟨rfl, rfl, id⟩
  | fix ys => cases h; exact ⟨rfl, rfl, id⟩
  | dct es => cases h
theorem mat_set (w : Nat) (rows : List (List Int)) (i : Nat) (r : List Int) : (mat w rows).set i (.list (sgs w r)) = mat w (rows.set i r) := by simp [mat]
theorem sg_one {w : Nat} (hw : 1 ≤ w) : sg w 1 = .tup [.bool false, .list [.int 1]] := by rw [← num_one hw]; exact sg_pos w 1
theorem rowsOk_get {rows : List (List Int)} {col : Nat} (h : rowsOk rows col = true) : rows.length ≤ 100 ∧ (∀ r ∈ rows, col < r.length ∧ r.length ≤ 100) ∧ ∀ r ∈ rows, r.all smallI = true := by
  unfold rowsOk at h
  rw [Bool.and_eq_true, decide_eq_true_eq, List.all_eq_true] at h
  refine ⟨h.1, fun r hr => ?_, fun r hr => ?_⟩
  · have := h.2 r hr; simp only [Bool.and_eq_true, decide_eq_true_eq] at this; exact this.1
  · have := h.2 r hr; simp only [Bool.and_eq_true, decide_eq_true_eq] at this; exact this.2
theorem clrStep_len {rows rows' : List (List Int)} {top col at_ : Nat} {before : Int} (h : clrStep rows top col at_ before = some rows') : rows'.length = rows.length := by
  unfold clrStep at h
  split at h
  · split at h
    · split at h
      · cases h; simp
      · cases h
    · cases h
  · cases h

theorem c_steps {C : Cx} (d : Nat) (w : Nat) (hw : 4 ≤ w) (hw' : w ≤ 30) (hU : ConstIs C "UNIT" (.tup [.bool false, .list [.int 1]])) (rows : List (List Int)) (n : Nat) (hn : n ≤ 100) (hl : rows.length ≤ 100) (hrl : ∀ r ∈ rows, r.length ≤ 100) (s' : BS) (hM : stM n 0 ⟨rows, [], false, 1⟩ = some s') :
    WF C (d + 8) 27 [.list (mat w rows), .int n, .int w, .fn 37, .fn 43] (fun r => r = .tup [.list (mat w s'.rows), .list (dgs s'.pl), .bool s'.odd]) := by
  have hw1 : 1 ≤ w := by walk_at "om"
  rw [← sg_one hw1] at hU
  refine WF_intro (ns := ["a", "columns", "w", "mul", "divrem"]) (by decide +kernel) rfl (fun pm code doc vs h => by obtain ⟨a, b, c, d, e, rfl⟩ := len5 h; rfl) (by decide +kernel) (by decide +kernel) (by decide +kernel) (by decide +kernel) (by decide +kernel) (by decide +kernel) ?_
  intro L a cd
  refine BK fun K hK => ?_
  walk_at "s"
  walk_at "s"
  walk_at "s"
  walk_at "s"
  refine E_Comp (by rfl) (by rfl) (by decide +kernel) ?_
  walk_at "s"
  refine ⟨mat w rows, [], iters_list, ⟨rfl, by decide +kernel, rfl, by rfl⟩, sub_nil, fun t bs O => O = [.lst bs] ∧ bs = (mat w rows).take t, ⟨rfl, rfl⟩, ?_, ?_⟩
  · intro L t y O2 bs hy ho hJ
    obtain ⟨rfl, rfl⟩ := hJ
    have ht : t < rows.length := by have := (List.getElem?_eq_some_iff.mp hy).1; rwa [mat_len] at this
    have hr : rows[t]? = some rows[t] := List.getElem?_eq_getElem ht
    have hlen := hrl _ (List.mem_of_getElem? hr)
    have hyr := mat_get (w := w) hr
    generalize rows[t] = r at *
    rw [hyr] at hy
    obtain rfl := Option.some.inj hy
    refine G_Name (.inl (by rfl)) ?_
    walk_at "go"
    refine ⟨none, none, rfl, rfl, ?_⟩
    refine ⟨_, _, none, none, (by intro zs; exact nofun), rfl, rfl, rfl, by rw [sgs_len]; walk_at "om", ?_⟩
    refine ⟨_, rfl, ?_, sub_nil, rfl, ?_⟩
    · rw [List.length_take, mat_len]; walk_at "om"
    · rw [take_snoc hyr]
  · intro O2 bs ho hJ
    obtain ⟨rfl, rfl⟩ := hJ
    rw [List.take_length]
    walk_at "go"
    refine E_const hU (by rfl) ?_
    walk_at "go"
    refine G_Tuple rfl rfl ?_
    refine G_Name (.inl (by rfl)) ?_
    refine G_Name (.inl (by rfl)) ?_
    refine G_Name (.inl (by rfl)) ?_
    refine G_Name (.inl (by rfl)) ?_
    refine N_next (B_next ?_)
    refine S_ForR (.inl (by rfl)) ?_
    walk_at "go"
    refine R_rng1 rfl (by walk_at "om") ?_
    refine ⟨_, _, _, rfl, fun t l O => ∃ (s : BS) (o : AO), Sub l [("w", .int w), ("mul", .fn 37), ("divrem", .fn 43), ("rows", .own 0), ("places", .own 1), ("is_odd", .bool s.odd), ("before", sg w s.before)] ∧ O = [o, .lst (dgs s.pl)] ∧ SeqOf [o] (.own 0) = some (mat w s.rows) ∧ stM (n - t) t s = some s',
      ⟨_, _, by walk_at "sub", rfl, rfl, hM⟩, ?_, ?_⟩
    · intro t k l O
      refine BK3 fun K hK => ?_
      rintro ht rfl ⟨s, o, hs, rfl, hso, hst⟩
      rw [show n - t = (n - (t + 1)) + 1 by walk_at "om", stM] at hst
      obtain ⟨s2, hst1, hst2⟩ := Option.bind_eq_some_iff.mp hst
      unfold stepM at hst1
      split at hst1
      case isFalse => cases hst1
      rename_i hcond
      obtain ⟨hok, hpl⟩ := hcond
      obtain ⟨hR1, hR2, hR3⟩ := rowsOk_get hok
      obtain ⟨hlo, hsq, hno⟩ := seqO (rest := [.lst (dgs s.pl)]) hso
      have hno := hno (mat_nown _ _)
      refine WB_sub (sub_in hs rfl) ?_
      walk_at "go"
      refine R_len_dgs rfl (by walk_at "om") ?_
      walk_at "go"
      rw [show (0 : Int) + (t : Int) * 1 = (t : Nat) by walk_at "om"]
      refine R_calO (c_pivot_row (d + 5) w hw1 s.rows s.pl.length t o hso hno hR1 hR2 hR3 hpl) rfl hno (by walk_at "nown") ?_
      rintro r rfl
      walk_at "go"
      dsimp only at hst1
      refine ⟨fun h => ?_, fun h => ?_⟩
      · have h0 := of_decide_eq_true h
        rw [if_neg (by lia         )] at hst1
        obtain ⟨j, j1, j2, j3⟩ : ∃ j : Nat, s.pl.length ≤ j ∧ j < s.rows.length ∧ pivAt s.rows t (s.rows.length - s.pl.length) s.pl.length = j := by
          rcases pivAt_range s.rows t (s.rows.length - s.pl.length) s.pl.length with q | ⟨j, q1, q2, q3⟩
          · (exfalso; omega)
          · exact ⟨j, q1, by walk_at "om", q3⟩
        rw [j3] at hst1 ⊢
        rw [Int.toNat_natCast] at hst1
        obtain ⟨rows1, e1, hst3⟩ := Option.bind_eq_some_iff.mp hst1
        obtain ⟨rows2, e2, hst4⟩ := Option.bind_eq_some_iff.mp hst3
        refine B_cut (fun l O => ∃ o1 : AO, Sub l [("top", .int s.pl.length), ("column", .int t), ("w", .int w), ("mul", .fn 37), ("divrem", .fn 43), ("rows", .own 0), ("places", .own 1), ("is_odd", .bool (if j = s.pl.length then s.odd else !s.odd)), ("before", sg w s.before)] ∧ O = [o1, .lst (dgs s.pl)] ∧ SeqOf [o1] (.own 0) = some (mat w rows1) ∧ rows1.length = s.rows.length) ?_ ?_
        · refine SK fun K hK => ?_
          walk_at "go"
          refine ⟨fun h => ?_, fun h => ?_⟩
          · have hne : j ≠ s.pl.length := by have := (bne_iff_ne).mp h; lia
            rw [if_neg hne] at e1
            unfold swapRows at e1
            have hrt : s.rows[s.pl.length]? = some s.rows[s.pl.length] := List.getElem?_eq_getElem (by walk_at "om")
            have hrj : s.rows[j]? = some s.rows[j] := List.getElem?_eq_getElem (by walk_at "om")
            rw [hrt, hrj] at e1
            simp only [Option.some.injEq] at e1
            generalize s.rows[s.pl.length] = rt at *
            generalize s.rows[j] = rj at *
            walk_at "go"
            refine R_idx (k := j) hsq rfl (mat_get hrj) (by walk_at "om") ?_
            walk_at "go"
            refine R_idx (k := s.pl.length) hsq rfl (mat_get hrt) (by lia         ) ?_
            walk_at "go"
            refine R_set (k := s.pl.length) hlo rfl (by rw [mat_len]; walk_at "om") (by rw [mat_len]; walk_at "om") ?_
            walk_at "go"
            refine R_set (k := j) (xs := mat w (s.rows.set s.pl.length rj)) (by rw [mat_set]; rfl) rfl (by rw [mat_len, List.length_set]; walk_at "om") (by rw [mat_len, List.length_set]; walk_at "om") ?_
            walk_at "go"
            rw [if_neg hne]
            refine ⟨_, by walk_at "sub", rfl, ?_, ?_⟩
            · rw [mat_set, e1]; rfl
            · rw [← e1]; simp
          · have heq : j = s.pl.length := by have := bne_eq_false_iff_eq.mp h; lia
            rw [if_pos heq] at e1
            cases e1
            walk_at "go"
            rw [if_pos heq]
            exact ⟨o, by walk_at "sub", rfl, hso, rfl⟩
        · rintro l O ⟨o1, hs, rfl, hso1, hl1⟩
          refine WB_sub hs ?_
          refine B_cut (fun l O => ∃ o2 : AO, Sub l [("top", .int s.pl.length), ("column", .int t), ("w", .int w), ("mul", .fn 37), ("divrem", .fn 43), ("rows", .own 0), ("places", .own 1), ("is_odd", .bool (if j = s.pl.length then s.odd else !s.odd)), ("before", sg w s.before)] ∧ O = [o2, .lst (dgs s.pl)] ∧ SeqOf [o2] (.own 0) = some (mat w rows2)) ?_ ?_
          · refine SK fun K hK => ?_
            refine S_ForR (.inl (by rfl)) ?_
            walk_at "go"
            refine R_len (seqO (rest := [.lst (dgs s.pl)]) hso1).2.1 (by rw [mat_len]; walk_at "om") ?_
            rw [mat_len]
            refine R_rng2 (j := s.pl.length + 1) (by walk_at "om") rfl (by lia         ) (by walk_at "om") ?_
            refine ⟨_, _, _, rfl, fun u l O => ∃ (o2 : AO) (rowsU : List (List Int)), Sub l [("top", .int s.pl.length), ("column", .int t), ("w", .int w), ("mul", .fn 37), ("divrem", .fn 43), ("rows", .own 0), ("places", .own 1), ("is_odd", .bool (if j = s.pl.length then s.odd else !s.odd)), ("before", sg w s.before)] ∧ O = [o2, .lst (dgs s.pl)] ∧ SeqOf [o2] (.own 0) = some (mat w rowsU) ∧ rowsU.length = s.rows.length ∧
              clrAll s.pl.length t s.before (rows1.length - (s.pl.length + 1) - u) (s.pl.length + 1 + u) rowsU = some rows2, ⟨o1, rows1, by walk_at "sub", rfl, hso1, hl1, e2⟩, ?_, ?_⟩
            · intro u k l O
              refine BK3 fun K hK => ?_
              rintro hu rfl ⟨o2, rowsU, hs, rfl, hso2, hlU, hclr⟩
              rw [show rows1.length - (s.pl.length + 1) - u = (rows1.length - (s.pl.length + 1) - (u + 1)) + 1 by walk_at "om", clrAll] at hclr
              obtain ⟨rowsV, hc1, hc2⟩ := Option.bind_eq_some_iff.mp hclr
              have hlV := clrStep_len hc1
              obtain ⟨hlo2, hsq2, hno2⟩ := seqO (rest := [.lst (dgs s.pl)]) hso2
              unfold clrStep at hc1
              split at hc1
              case h_2 => cases hc1
              rename_i r h hr hh
              split at hc1
              case h_2 => cases hc1
              rename_i pp oo hp ho'
              split at hc1
              case isFalse => cases hc1
              rename_i hcs
              obtain ⟨c1, c2, c3, c4, c5, c6⟩ := hcs
              cases hc1
              refine WB_sub (sub_in hs rfl) ?_
              walk_at "go"
              refine R_idx (k := s.pl.length + 1 + u) hsq2 (by walk_at "om") (mat_get hr) (by lia         ) ?_
              walk_at "go"
              refine R_idx (k := s.pl.length) hsq2 rfl (mat_get hh) (by lia         ) ?_
              walk_at "go"
              refine R_cal (c_cleared d w hw hw' r h t pp oo s.before c1 c2 c3 c4 hp ho' c5 c6) (nall_cons (.list (sgs_nown _ _)) (nall_cons (.list (sgs_nown _ _)) (by walk_at "nown"))) ?_
              rintro r' rfl
              walk_at "go"
              refine R_set (k := s.pl.length + 1 + u) hlo2 (by walk_at "om") (by rw [mat_len]; walk_at "om") (by rw [mat_len]; walk_at "om") ?_
              rw [mat_set]
              walk_at "go"
              exact ⟨_, _, by walk_at "sub", rfl, rfl, by rw [hlV, hlU], hc2⟩
            · rintro l O ⟨o2, rowsU, hs, rfl, hso2, hlU, hclr⟩
              rw [Nat.sub_self, clrAll] at hclr
              cases hclr
              walk_at "s"
              exact ⟨o2, hs, rfl, hso2⟩
          · rintro l O ⟨o2, hs, rfl, hso2⟩
            refine WB_sub hs ?_
            obtain ⟨hlo2, hsq2, hno2⟩ := seqO (rest := [.lst (dgs s.pl)]) hso2
            split at hst4
            case h_2 => cases hst4
            rename_i b hb
            cases hst4
            obtain ⟨rr, hrr, hbb⟩ := Option.bind_eq_some_iff.mp hb
            walk_at "go"
            refine R_idx (k := s.pl.length) hsq2 rfl (mat_get hrr) (by lia         ) ?_
            walk_at "go"
            refine R_idx (k := t) rfl rfl (sgs_get hbb) (by walk_at "om") ?_
            walk_at "go"
            refine R_app2 rfl (by rw [dgs_len]; lia         ) ?_
            rw [dgs_snoc]
            walk_at "go"
            exact ⟨_, o2, by walk_at "sub", rfl, hso2, hst2⟩
      · have h0 := of_decide_eq_false h
        rw [if_pos (by lia         )] at hst1
        cases hst1
        walk_at "go"
        exact ⟨s, o, by walk_at "sub", rfl, hso, hst2⟩
    · rintro l O ⟨s, o, hs, rfl, hso, hst⟩
      rw [Nat.sub_self, stM] at hst
      cases hst
      refine N_next (WB_sub hs ?_)
      walk_at "go"
      obtain ⟨hlo, hsq, hno⟩ := seqO (rest := [.lst (dgs s'.pl)]) hso
      refine ⟨_, .tup [.list (mat w s'.rows), .list (dgs s'.pl), .bool s'.odd], .inl rfl, .tup rfl ?_, rfl⟩
      intro i x y hx hy
      match i with
      | 0 => simp at hx hy; subst hx; subst hy; exact .lst hlo (Nat.zero_le _) (mat_nown _ _)
      | 1 => simp at hx hy; subst hx; subst hy; exact .lst rfl (Nat.zero_le _) (dgs_nown _)
      | 2 => simp at hx hy; subst hx; subst hy; exact .same (.bool _)
      | i + 3 => simp at hx
-- M30
noncomputable def detM (rows : List (List Int)) : Option Int := (stM rows.length 0 ⟨rows, [], false, 1⟩).bind fun s => if s.pl.length < rows.length then some 0 else
  (s.rows[s.rows.length - 1]?.bind (·[rows.length - 1]?)).bind fun z => if z.natAbs < 2 ^ 28 ∧ s.rows.length ≤ 100 ∧ s.pl.length ≤ 100 then some (if s.odd = true then -z else z) else none
theorem sg_zero (w : Nat) : sg w 0 = .tup [.bool false, .list []] := sg_pos w 0
theorem pick_last {xs : List AV} {x : AV} (h : xs[xs.length - 1]? = some x) : pick xs (-1) = some x := by
  have hl := (List.getElem?_eq_some_iff.mp h).1
  unfold pick
  rw [if_neg (by decide), if_pos (by lia         ), show ((-1 : Int) + xs.length).toNat = xs.length - 1 by lia         ]
  exact h

theorem c_det {C : Cx} (d : Nat) (w : Nat) (hw : 4 ≤ w) (hw' : w ≤ 30) (hU : ConstIs C "UNIT" (.tup [.bool false, .list [.int 1]])) (hN : ConstIs C "NOUGHT" (.tup [.bool false, .list []])) (rows : List (List Int)) (h0 : 0 < rows.length) (hl : rows.length ≤ 100) (hrl : ∀ r ∈ rows, r.length ≤ 100) (z : Int) (hM : detM rows = some z) :
    WF C (d + 9) 28 [.list (mat w rows), .int w, .fn 37, .fn 43] (fun r => r = sg w z) := by
  have hw1 : 1 ≤ w := by walk_at "om"
  obtain ⟨s, hst, hz⟩ := Option.bind_eq_some_iff.mp hM
  refine WF_intro (ns := ["a", "w", "mul", "divrem"]) (by decide +kernel) rfl (fun pm code doc vs h => by obtain ⟨a, b, c, d, rfl⟩ := len4 h; rfl) (by decide +kernel) (by decide +kernel) (by decide +kernel) (by decide +kernel) (by decide +kernel) (by decide +kernel) ?_
  intro L a cd
  refine BK fun K hK => ?_
  walk_at "go"
  refine R_len rfl (by rw [mat_len]; walk_at "om") ?_
  rw [mat_len]
  walk_at "go"
  refine ⟨fun h => ?_, fun h => ?_⟩
  · have := beq_iff_eq.mp h; lia
  walk_at "go"
  refine R_len rfl (by rw [mat_len]; walk_at "om") ?_
  rw [mat_len]
  walk_at "go"
  refine R_cal (c_steps d w hw hw' hU rows rows.length hl hl hrl s hst) (nall_cons (.list (mat_nown _ _)) (by walk_at "nown")) ?_
  rintro r rfl
  walk_at "go"
  split at hz
  · rename_i hlt
    cases hz
    refine R_len_dgs rfl (by walk_at "om") ?_
    walk_at "go"
    refine R_len rfl (by rw [mat_len]; walk_at "om") ?_
    rw [mat_len]
    walk_at "go"
    refine brT (decide_eq_true (by lia         )) ?_
    walk_at "s"
    walk_at "s"
    refine E_const hN (by rfl) ?_
    walk_at "go"
    exact ⟨_, _, .inl rfl, .same (.tup (nall_cons (.bool _) (nall_cons (.list nall_nil) nall_nil))), (sg_zero w).symm⟩
  · rename_i hlt
    obtain ⟨z', hz1, hz2⟩ := Option.bind_eq_some_iff.mp hz
    split at hz2
    case isFalse => cases hz2
    rename_i hsm
    obtain ⟨k1, k2, k3⟩ := hsm
    cases hz2
    obtain ⟨rr, hrr, hzz⟩ := Option.bind_eq_some_iff.mp hz1
    refine R_len_dgs rfl (by walk_at "om") ?_
    walk_at "go"
    refine R_len rfl (by rw [mat_len]; walk_at "om") ?_
    rw [mat_len]
    walk_at "go"
    refine brF (decide_eq_false (by lia         )) ?_
    walk_at "go"
    refine ⟨_, _, _, rfl, rfl, by decide, pick_last (by rw [mat_len]; exact mat_get hrr), ?_⟩
    walk_at "go"
    refine R_len rfl (by rw [mat_len]; walk_at "om") ?_
    rw [mat_len]
    walk_at "go"
    refine R_idx (k := rows.length - 1) rfl (by lia         ) (sgs_get hzz) (by lia         ) ?_
    walk_at "go"
    refine ⟨fun h => ?_, fun h => ?_⟩
    · walk_at "go"
      refine R_cal (c_s_neg (d + 6) w hw1 z' (fits_of hw1 (by walk_at "om"))) (by walk_at "nown") ?_
      rintro r rfl
      walk_at "go"
      exact ⟨_, _, .inl rfl, .same (sg_nown _ _), by rw [if_pos h]⟩
    · walk_at "go"
      exact ⟨_, _, .inl rfl, .same (sg_nown _ _), by rw [if_neg (by rw [h]; decide)]⟩
-- M31
noncomputable def LaneIs (o : AO) (k : Nat) (xs : List Nat) : Prop := SeqOf [o] (.own 0) = some [.int k, .list (dgs xs)]
theorem LaneIs.nown {o : AO} {k : Nat} {xs : List Nat} (h : LaneIs o k xs) : NownO o := (seqO (rest := []) h).2.2 (nall_cons (.int _) (nall_cons (.list (dgs_nown _)) nall_nil))

theorem c_stepped {C : Cx} (d : Nat) (m : Nat) (hm : 0 < m) (hm' : m < 2 ^ 20) (o : AO) (k : Nat) (xs : List Nat) (hk : k ≤ 1000) (hx : xs.length ≤ 100) (ho : LaneIs o k xs) :
    WFo C (d + 1) 45 [.own 0, .int m] [o] (fun r O' => ∃ v : Nat, v < m ∧ r = .int v ∧ ∃ o', O' = [o'] ∧ LaneIs o' (k + 1) xs) := by
  refine WFo_intro (ns := ["lane", "many"]) (by decide +kernel) rfl (fun pm code doc vs h => by obtain ⟨a, b, rfl⟩ := len2 h; rfl) (by decide +kernel) (by decide +kernel) (by decide +kernel) (by decide +kernel) (by decide +kernel) (by decide +kernel) ?_
  intro L a cd
  refine BK fun K hK => ?_
  obtain ⟨hlo, hsq, hno⟩ := seqO (rest := []) ho
  have fin : ∀ (v : Int), (v : Int) = (v.toNat : Int) → v.toNat < m → ∀ o', LaneIs o' (k + 1) xs → ∃ av r, (AF.ret (.int v) = .ret av ∨ AF.ret (.int v) = .next ∧ av = .none) ∧ Fin [o].length [o'] av r ∧ (∀ o ∈ [o'].take [o].length, NownO o) ∧ [o].length ≤ [o'].length ∧ ∃ v : Nat, v < m ∧ r = .int v ∧ ∃ o'', [o'].take [o].length = [o''] ∧ LaneIs o'' (k + 1) xs := by
    intro v hv hlt o' ho'
    refine ⟨_, _, .inl rfl, .same (.int _), ?_, Nat.le_refl _, v.toNat, hlt, by rw [← hv], o', rfl, ho'⟩
    intro o2 h2
    rw [List.mem_singleton.mp h2]; exact ho'.nown
  walk_at "go"
  refine R_idx (k := 0) hsq rfl rfl (by lia         ) ?_
  walk_at "go"
  refine R_set (k := 0) hlo rfl (by simp) (by simp) ?_
  have e1 : (k : Int) + 1 = ((k + 1 : Nat) : Int) := by walk_at "om"
  rw [e1]
  walk_at "go"
  refine R_idx (k := 0) rfl rfl rfl (by lia         ) ?_
  walk_at "go"
  refine R_idx (k := 1) rfl rfl rfl (by lia         ) ?_
  refine R_len_dgs rfl (by walk_at "om") ?_
  walk_at "go"
  refine ⟨fun h => ?_, fun h => ?_⟩
  · have h1 : k < xs.length := by first | exact om_dlt h | exact om_dle h | exact om_dp h | (have := of_decide_eq_true h; walk_at "om")
    have hxk : xs[k]? = some xs[k] := List.getElem?_eq_getElem h1
    walk_at "go"
    refine R_idx (k := 1) rfl rfl rfl (by lia         ) ?_
    walk_at "go"
    refine R_idx (k := 0) rfl rfl rfl (by lia         ) ?_
    walk_at "go"
    refine R_idx_dgs (k := k) rfl (by lia         ) hxk (by walk_at "om") ?_
    walk_at "go"
    refine R_mod (by lia         ) ?_
    rw [fmod_nat]
    walk_at "go"
    exact fin _ (by lia         ) (by rw [Int.toNat_natCast]; exact Nat.mod_lt _ hm) _ rfl
  · walk_at "go"
    refine R_idx (k := 0) rfl rfl rfl (by lia         ) ?_
    walk_at "go"
    refine R_mulS (by decide) (by decide) ?_
    walk_at "go"
    refine R_idx (k := 0) rfl rfl rfl (by lia         ) ?_
    walk_at "go"
    refine R_div' (by decide) (by decide) ?_
    walk_at "go"
    refine R_mod (by lia         ) ?_
    have e2 : (((4 : Int) * (k + 1 : Nat) + ((k + 1 : Nat) : Int).fdiv 3 + 6).fmod m) = (((4 * (k + 1) + (k + 1) / 3 + 6) % m : Nat) : Int) := by
      rw [show ((k + 1 : Nat) : Int).fdiv 3 = (((k + 1) / 3 : Nat) : Int) from fdiv_nat (k + 1) 3, ← fmod_nat]
      congr 1
    rw [e2]
    walk_at "go"
    exact fin _ (by walk_at "om") (by rw [Int.toNat_natCast]; exact Nat.mod_lt _ hm) _ rfl

noncomputable def aloneM (moment : Nat) (spot e : Nat) : Int := if spot ≤ e then chooseM moment (e - spot) else 0
theorem c_alone {C : Cx} (d : Nat) (w : Nat) (hw : 1 ≤ w) (hw' : w ≤ 30) (moment spot e : Nat) (h1 : 1 ≤ moment) (h4 : moment ≤ 4) :
    WF C (d + 7) 48 [.int moment, .int spot, .int e, .int w] (fun r => r = sg w (aloneM moment spot e)) := by
  refine WF_intro (ns := ["moment", "spot", "end", "w"]) (by decide +kernel) rfl (fun pm code doc vs h => by obtain ⟨a, b, c, d, rfl⟩ := len4 h; rfl) (by decide +kernel) (by decide +kernel) (by decide +kernel) (by decide +kernel) (by decide +kernel) (by decide +kernel) ?_
  intro L a cd
  refine BK fun K hK => ?_
  walk_at "go"
  refine ⟨fun h => ?_, fun h => ?_⟩
  · have hse : spot ≤ e := by first | exact om_dlt h | exact om_dle h | exact om_dp h | (have := of_decide_eq_true h; walk_at "om")
    walk_at "go"
    refine E_fn (i := 37) (by decide +kernel) (by rfl) (by rfl) ?_
    rw [show (e : Int) - (spot : Int) = ((e - spot : Nat) : Int) by lia         ]
    walk_at "go"
    refine R_cal (c_binomial d hw hw' h1 h4) (by walk_at "nown") ?_
    rintro r rfl
    walk_at "go"
    refine ⟨_, _, .inl rfl, .same (.tup (by walk_at "nown")), ?_⟩
    unfold aloneM
    rw [if_pos hse, sg_pos]
  · have hse : ¬ spot ≤ e := by first | exact om_dnlt h | exact om_dnle h | exact om_dnp h | (have := of_decide_eq_false h; walk_at "om")
    walk_at "go"
    refine ⟨_, sg w 0, .inl rfl, ?_, ?_⟩
    · rw [sg_zero]
      refine .tup rfl ?_
      intro i x y hx hy
      match i with
      | 0 => simp at hx hy; subst hx; subst hy; exact .same (.bool _)
      | 1 => simp at hx hy; subst hx; subst hy; exact .lst rfl (Nat.zero_le _) nall_nil
      | i + 2 => simp at hx
    · unfold aloneM; rw [if_neg hse]
-- M32
theorem bindL_local {k : Str → Option NameKind} {x : Str} : ∀ (binds : List (Str × Value)) (m : Str → Option Value), (∀ y ∈ binds, k y.1 = some .local) → bindL k binds m x = (binds.reverse.lookup x).or (m x)
  | [], m, _ => by simp [bindL]
  | (n, v) :: r, m, h => by
    unfold bindL
    rw [if_pos (h (n, v) (List.mem_cons_self ..)), bindL_local r _ fun y hy => h y (List.mem_cons_of_mem _ hy), List.reverse_cons, lookup_snoc]
    cases r.reverse.lookup x with
    | some u => rfl
    | none =>
      show (if x = n then some v else m x) = ((none : Option Value).or (if (x == n) = true then some v else none)).or (m x)
      by_cases q : x = n
      · subst q; simp
      · rw [if_neg q, show (x == n) = false by simpa using q]; rfl

theorem cellsFrom_names : ∀ (names : List (Str × NameKind)) (n : Nat), (names.map (·.1)).Nodup → ((cellsFrom n names []).map (·.1)).Nodup
  | [], _, _ => by simp [cellsFrom]
  | (x, k) :: r, n, h => by
    rw [List.map_cons, List.nodup_cons] at h
    unfold cellsFrom
    split
    · rw [cellsFrom_split, List.map_append, List.nodup_append]
      refine ⟨cellsFrom_names r _ h.2, by simp, fun a ha b hb e => ?_⟩
      obtain ⟨⟨y, c⟩, hy, rfl⟩ := List.mem_map.mp ha
      have hb' : b = x := by simpa using hb
      have := cellsFrom_name _ _ _ _ hy
      exact h.1 (hb' ▸ e ▸ List.mem_map_of_mem (f := (·.1)) this)
    · exact cellsFrom_names r _ h.2
theorem look_nd {α : Type} {x : Str} {c : α} : ∀ {l : List (Str × α)}, (l.map (·.1)).Nodup → (x, c) ∈ l → l.lookup x = some c
  | [], _, h => by simp at h
  | (n, k') :: r, hn, h => by
    rw [List.map_cons, List.nodup_cons] at hn
    rw [List.lookup_cons]
    rcases List.mem_cons.mp h with e | h
    · cases e; simp
    · have : x ≠ n := fun q => hn.1 (q ▸ List.mem_map_of_mem (f := (·.1)) h)
      rw [show (x == n) = false by simpa using this]
      exact look_nd hn.2 h
section
variable {C : Cx} {d : Nat} {env : Env} {p : List (Value × AV)} {l : List (Str × AV)} {Os : List AO} {X : Addr → Prop} {β : List Addr} {h h' : Heap}
/-- where a body has come to, whatever is still the frame's own -/
inductive PostX (C : Cx) (X : Addr → Prop) (env : Env) (β : List Addr) (h : Heap) (Q : AF → List (Str × AV) → List AO → Prop) (f : Flow) (h' : Heap) : Prop
  | mk (β2 : List Addr) (af : AF) (l' : List (Str × AV)) (Os' : List AO) : Hold C X env l' β2 Os' [] h' → Pres env β h h' → RF C (Fb X env β2) β2 h' f af → Q af l' Os' → PostX C X env β h Q f h'
noncomputable def WBX (C : Cx) (d : Nat) (env : Env) (ss : List Stmt) (l : List (Str × AV)) (Os : List AO) (Q : AF → List (Str × AV) → List AO → Prop) : Prop := ∀ X β h, Hold C X env l β Os [] h → Wp C d (execs ss env) h (PostX C X env β h Q)
theorem WBX_of {env : Env} {ss : List Stmt} {l : List (Str × AV)} {Os : List AO} {Q : AF → List (Str × AV) → List AO → Prop} (H : WB C d env ss l Os Q) : WBX C d env ss l Os Q := fun X β h hh =>
  (H [] X β h hh).mono fun _ _ zz => by obtain ⟨β', af, l', Os', h1, h2, _, h4, h5⟩ := zz; exact ⟨β ++ β', af, l', Os', h1, h2, h4, h5⟩
/-- a def with cells, called: its body once -/
theorem WF_introC0 {i : Nat} {ns : List Str} {args : List AV} {Q : AV → Prop} (hi : i ∈ usedFns) (hn : ns.length = args.length)
    (hbind : ∀ pm code doc (vs : List Value), vs.length = ns.length → bindArgs (docDef (nameAt i) (paramsAt i) (bodyAt i) (scopeAt i) pm code doc) ⟨vs, []⟩ = pure (ns.zip vs))
    (hloc : ∀ x ∈ ns, (scopeAt i).names.lookup x = some .local) (hnd : ns.Nodup)
    (hnn : ((scopeAt i).names.map (·.1)).Nodup) (hco : (scopeAt i).isCoroutine = false) (hgen : (scopeAt i).isGenerator = false) (hk : (scopeAt i).kind = .function)
    (body : ∀ (L a : Addr) (cd : Value), WBX C d (envOfC (nameAt i) (scopeAt i) L a cd) (bodyAt i) (ns.zip args) [] (fun f _ Os' => ∃ av r, (f = .ret av ∨ (f = .next ∧ av = .none)) ∧ Fin 0 Os' av r ∧ Q r)) : WF C (d + 1) i args Q := by
  intro X h vs a hg hbase hX hvs A tk r
  obtain ⟨a', o, pm, code, doc, hg', ho, hdat, hcd⟩ := C.fn i hi
  rw [hg] at hg'; cases hg'
  have hoh := hbase a o ho
  have hlim : h.NoLimit := C.nolimit.keeps hbase
  have hvl : vs.length = ns.length := by rw [hvs.1, hn]
  have hbl : ∀ x ∈ ns.zip vs, (scopeAt i).names.lookup x.1 = some .local := fun x hx => hloc x.1 (List.of_mem_zip hx).1
  refine wpAny_call (call_cells_ret (s := (C.at h tk)) (by have := r.dep; lia  ) hoh hdat hlim (hcd.keeps hbase) (hbind pm code doc vs hvl) (fun x hx => .inl (hbl x hx)) (fun h₁ tk₁ F CL => ?_) hco hgen hk)
  have hsz := get_size h
  have hb0 : ∀ c, h.get? c = none → C.s.heap.get? c = none := fun c hc => by
    cases e : C.s.heap.get? c with
    | none => rfl
    | some o => have := hbase _ _ e; rw [hc] at this; cases this
  have hnX : ∀ c, h.get? c = none → ¬ X c := fun c hc hx => by obtain ⟨_, o, e⟩ := hX _ hx; rw [hc] at e; cases e
  have hex : ∃ o, h₁.get? h.objs.size = some o := by obtain ⟨o, _, _, ho, _⟩ := F.ns; exact ⟨o, ho⟩
  have gone : ∀ c, h.objs.size < c → h.get? c = none := fun c hc => by
    cases e : h.get? c with
    | none => rfl
    | some o => exact (Nat.lt_asymm (Heap.lt_size e) hc).elim
  generalize hev : envOfC (nameAt i) (scopeAt i) h.objs.size a code = env at *
  have hcs : env.cells = cellsFrom (h.objs.size + 1) (scopeAt i).names [] := by subst hev; rfl
  have hlc : env.locals = h.objs.size := by subst hev; rfl
  have hkk : ∀ x, env.kindOf x = (scopeAt i).names.lookup x := fun x => by subst hev; rfl
  have cellk : ∀ x c, (x, c) ∈ env.cells → env.kindOf x = some .cell := fun x c hm => by
    rw [hcs] at hm; rw [hkk]; exact lookup_of_nodup hnn (cellsFrom_name _ _ _ _ hm)
  have own_of : ∀ x c, (x, c) ∈ env.cells → c ∈ ownCells env := fun x c hm => by
    unfold ownCells
    exact List.mem_map.mpr ⟨(x, c), List.mem_filter.mpr ⟨hm, by simpa using cellk x c hm⟩, rfl⟩
  have ownm : ∀ c, c ∈ ownCells env → ∃ x, (x, c) ∈ env.cells := fun c hm => by
    unfold ownCells at hm
    obtain ⟨⟨x, c'⟩, hm1, rfl⟩ := List.mem_map.mp hm
    exact ⟨x, (List.mem_filter.mp hm1).1⟩
  have abv : ∀ c, c ∈ ownCells env → h.objs.size < c := fun c hm => by
    obtain ⟨x, hx⟩ := ownm c hm
    rw [hcs] at hx; exact CL.above x c hx
  have minem : ∀ b, b ∈ mine env [] → h.get? b = none := fun b hb => by
    rcases List.mem_cons.mp hb with q | q
    · rw [q, hlc]; exact hsz
    · rw [List.append_nil] at q; exact gone b (abv b q)
  have stA : ∀ {v x}, Is C X [] h v x → Is C (Fb X env []) [] h₁ v x := fun hi => hi.stable (fun b o _ e => F.keep b o e) (fun b o hb e hx => by
    rcases hx with hx | hx
    · exact hb hx
    · rw [minem b hx] at e; cases e) fun _ _ e => e
  have bl : ∀ x, bindL env.kindOf (ns.zip vs) (fun _ => none) x = (ns.zip vs).reverse.lookup x := fun x => by
    rw [bindL_local _ _ fun y hy => by rw [hkk]; exact hbl y hy]; simp
  have H : Hold C X env (ns.zip args) [] [] [] h₁ := by
    refine ⟨⟨by subst hev; exact hk, by subst hev; rfl, by subst hev; rfl⟩, fun b o e => F.keep b o (hbase b o e), fun b hb => ?_, ?_, fun b hb => ?_, ⟨_, hlc ▸ F.ns⟩, fun x c e => ?_, fun x c e _ => own_of x c (mem_lookup e), fun x y c e1 e2 => ?_, fun x av e => ?_, rfl, fun i a o e => by simp at e, fun v av hm => (nomatch hm)⟩
    · obtain ⟨h1, o, h2⟩ := hX b hb; exact ⟨h1, o, F.keep b o h2⟩
    · show (env.locals :: (ownCells env ++ [])).Nodup
      rw [List.append_nil, List.nodup_cons]
      refine ⟨fun hm => ?_, ?_⟩
      · have := abv _ hm; rw [hlc] at this; exact Nat.lt_irrefl _ this
      · unfold ownCells
        rw [hcs]
        exact List.pairwise_map.mpr (List.Pairwise.filter _ CL.apart)
    · refine ⟨hb0 b (minem b hb), hnX b (minem b hb), ?_⟩
      rcases List.mem_cons.mp hb with q | q
      · rw [q, hlc]; exact hex
      · rw [List.append_nil] at q
        obtain ⟨x, hx⟩ := ownm b q
        have hx' := hx
        rw [hcs] at hx'
        obtain ⟨o, ho, _⟩ := CL.cell x b (look_nd (cellsFrom_names _ _ hnn) hx')
        exact ⟨o, ho⟩
    · have hm := mem_lookup e
      rw [hcs] at e
      exact ⟨.inl (own_of x c hm), _, CL.cell x c e⟩
    · have h1 := mem_lookup e1
      have h2 := mem_lookup e2
      rw [hcs] at h1 h2
      exact congrArg Prod.fst (pw_inj CL.apart h1 h2 rfl)
    · obtain ⟨j, v, g1, g2, g3, g4⟩ := zip_lookup hnd hn.symm hvl e
      exact ⟨v, .inl ⟨by rw [hkk]; exact hloc x g3, _, hlc ▸ F.ns, by rw [bl]; exact g4⟩, stA (hvs.2 j v av g1 g2)⟩
  have R' : Room d (A.deeper env) := ⟨r.hand, by have := r.dep; show A.depth + 1 + d ≤ _; lia  , by have := r.un; show A.units + 3 + 8 * d + 8 ≤ _; lia  ⟩
  have body' := body h.objs.size a code
  rw [hev] at body'
  refine wpAny_mono (body' X [] h₁ H _ _ R') (fun f s' zz => ?_) fun _ _ e => e
  obtain ⟨h2, tk2, e2, β', af, l', Os', g1, g2, g4, av, rr, g5, g6, g7⟩ := zz
  have fin : ∀ v, Is C (Fb X env β') β' h2 v av → Ends C (FEnd C X h Q v) s' := fun v hv =>
    ⟨h2, tk2, e2, rr, fun b o e => g2 b o (F.keep b o e) (fun hm => by rw [minem b hm] at e; cases e), fin_is (n := 0) g1 hv g6 (fun b o hb _ hx => hb (.inl hx)) (fun j b _ hb hx => (g1.new b (List.mem_cons_of_mem _ (List.mem_append_right _ (List.mem_of_getElem? hb)))).2.1 hx) [], g7⟩
  rcases g5 with rfl | ⟨rfl, rfl⟩
  · cases g4 with | ret hi => exact fin _ hi
  · cases g4 with | next => exact fin _ .none
theorem WF_introC {i : Nat} {ns : List Str} {args : List AV} {Q : AV → Prop} (hi : i ∈ usedFns) (hn : ns.length = args.length)
    (hbind : ∀ pm code doc (vs : List Value), vs.length = ns.length → bindArgs (docDef (nameAt i) (paramsAt i) (bodyAt i) (scopeAt i) pm code doc) ⟨vs, []⟩ = pure (ns.zip vs))
    (hloc : ∀ x ∈ ns, (scopeAt i).names.lookup x = some .local) (hnd : ns.Nodup)
    (hnn : ((scopeAt i).names.map (·.1)).Nodup) (hco : (scopeAt i).isCoroutine = false) (hgen : (scopeAt i).isGenerator = false) (hk : (scopeAt i).kind = .function)
    (body : ∀ (L a : Addr) (cd : Value), WB C d (envOfC (nameAt i) (scopeAt i) L a cd) (bodyAt i) (ns.zip args) [] (fun f _ Os' => ∃ av r, (f = .ret av ∨ (f = .next ∧ av = .none)) ∧ Fin 0 Os' av r ∧ Q r)) : WF C (d + 1) i args Q := WF_introC0 hi hn hbind hloc hnd hnn hco hgen hk fun L a cd => WBX_of (body L a cd)
end
-- M33
/-- a tuple of ints -/
noncomputable def itup (ks : List Int) : AV := .tup (ks.map .int)
theorem items_are {C : Cx} {F : Addr → Prop} {β : List Addr} {h : Heap} : ∀ {vs : List Value} {ks : List Int}, vs.length = ks.length → (∀ (i : Nat) v x, vs[i]? = some v → (ks.map AV.int)[i]? = some x → Is C F β h v x) → ItemsAre (intKind P0 C.w) ks vs
  | [], [], _, _ => .nil
  | v :: vs, k :: ks, hl, hx => by
    obtain ⟨t, rfl⟩ := is_int (hx 0 v (.int k) rfl rfl)
    refine .cons (by show Value.isInt k (.int k t) = true; simp [Value.isInt]) (items_are (by simpa using hl) fun i v x e e' => hx (i + 1) v x (by simpa using e) (by simpa using e'))
  | [], _ :: _, hl, _ => by simp at hl
  | _ :: _, [], hl, _ => by simp at hl
theorem key_of {C : Cx} {F : Addr → Prop} {β : List Addr} {h : Heap} {v : Value} {ks : List Int} (H : Is C F β h v (itup ks)) : ∃ a, v = .ref a ∧ ¬ F a ∧ C.knd.is h ks a := by
  cases H with
  | @tup a vs _ hf ht hl hx =>
    obtain ⟨o, ho, hc, n, hd⟩ := ht
    exact ⟨a, rfl, hf, o, vs.toArray, n, ho, hc, hd, by simpa using items_are (by simpa using hl) hx⟩

/-- what stands at a key -/
noncomputable def atD (es : List (List Int × Int)) (k : List Int) : Option Int := (es.find? fun e => decide (e.1 = k)).map (·.2)
noncomputable def putD (es : List (List Int × Int)) (k : List Int) (v : Int) : List (List Int × Int) := if (atD es k).isSome then es.map fun e => if e.1 = k then (e.1, v) else e else es ++ [(k, v)]

noncomputable def RelD (xs : List (List Int × Addr × Value)) (es : List (List Int × Int)) : Prop := xs.length = es.length ∧ ∀ (i : Nat) x e, xs[i]? = some x → es[i]? = some e → x.1 = e.1 ∧ ∃ t, x.2.2 = .int e.2 t
theorem RelD.tail {x : List Int × Addr × Value} {e : List Int × Int} {xs : List (List Int × Addr × Value)} {es : List (List Int × Int)} (h : RelD (x :: xs) (e :: es)) : RelD xs es := ⟨by simpa using h.1, fun i y f hy hf => h.2 (i + 1) y f (by simpa using hy) (by simpa using hf)⟩
theorem at_rel (k : List Int) : ∀ {xs : List (List Int × Addr × Value)} {es : List (List Int × Int)}, RelD xs es → (atKey xs k = none ∧ atD es k = none) ∨ ∃ p v t, atKey xs k = some p ∧ atD es k = some v ∧ p.2 = .int v t
  | [], [], _ => .inl ⟨rfl, rfl⟩
  | x :: xs, e :: es, h => by
    obtain ⟨h1, t, h2⟩ := h.2 0 x e rfl rfl
    by_cases q : e.1 = k
    · refine .inr ⟨x.2, e.2, t, ?_, ?_, h2⟩
      · unfold atKey; rw [List.find?_cons_of_pos (by simpa [h1] using q)]; rfl
      · unfold atD; rw [List.find?_cons_of_pos (by simpa using q)]; rfl
    · have q' : ¬ x.1 = k := by rw [h1]; exact q
      have e1 : atKey (x :: xs) k = atKey xs k := by unfold atKey; rw [List.find?_cons_of_neg (by simpa using q')]
      have e2 : atD (e :: es) k = atD es k := by unfold atD; rw [List.find?_cons_of_neg (by simpa using q)]
      rw [e1, e2]; exact at_rel k h.tail
  | [], _ :: _, h => by have := h.1; simp at this
  | _ :: _, [], h => by have := h.1; simp at this
theorem put_rel {xs : List (List Int × Addr × Value)} {es : List (List Int × Int)} (h : RelD xs es) (k : List Int) (a : Addr) (v : Int) (t : Tok) : RelD (storedH xs k a (.int v t)) (putD es k v) := by
  have hs : (atKey xs k).isSome = (atD es k).isSome := by
    rcases at_rel k h with ⟨h1, h2⟩ | ⟨p, u, t', h1, h2, _⟩
    · rw [h1, h2]; rfl
    · rw [h1, h2]; rfl
  unfold storedH putD
  rw [hs]
  split
  · refine ⟨by simp [h.1], fun i x e hx he => ?_⟩
    rw [List.getElem?_map] at hx he
    obtain ⟨x0, hx0, rfl⟩ := Option.map_eq_some_iff.mp hx
    obtain ⟨e0, he0, rfl⟩ := Option.map_eq_some_iff.mp he
    obtain ⟨h1, t', h2⟩ := h.2 i x0 e0 hx0 he0
    unfold putAt
    by_cases q : e0.1 = k
    · rw [if_pos q, if_pos (h1.trans q)]; exact ⟨h1, t, rfl⟩
    · rw [if_neg q, if_neg (by rw [h1]; exact q)]; exact ⟨h1, t', h2⟩
  · refine ⟨by simp [h.1], fun i x e hx he => ?_⟩
    by_cases q : i < xs.length
    · rw [List.getElem?_append_left q] at hx
      rw [List.getElem?_append_left (h.1 ▸ q)] at he
      exact h.2 i x e hx he
    · rw [List.getElem?_append_right (Nat.not_lt.mp q)] at hx
      rw [List.getElem?_append_right (h.1 ▸ Nat.not_lt.mp q), ← h.1] at he
      cases hj : i - xs.length with
      | succ n => rw [hj] at hx; simp at hx
      | zero =>
        rw [hj] at hx he
        simp only [List.getElem?_cons_zero, Option.some.injEq] at hx he
        subst hx; subst he
        exact ⟨rfl, t, rfl⟩

section
variable {C : Cx} {d : Nat} {env : Env} {p : List (Value × AV)} {l : List (Str × AV)} {Os : List AO} {X : Addr → Prop} {β : List Addr} {h h' : Heap}
/-- {} -/
theorem E_DictNil {pos : Pos} {Q : AV → List (Str × AV) → List AO → Prop} (hq : Q (.own Os.length) l (Os ++ [.dct []])) : WE C d env (.Dict [] [] pos) l Os Q := fun p X β h H A tk r => by
  refine wpAny_Dict_empty ?_
  have hb : C.s.heap.get? h.objs.size = none := by
    cases e : C.s.heap.get? h.objs.size with
    | none => rfl
    | some o => have := H.base _ _ e; rw [get_size] at this; cases this
  obtain ⟨k1, k2⟩ := H.addOwn (h' := h.push { cls := .type "dict", data := .dict #[] }) (a := h.objs.size) (o := .dct []) (push_get _) (get_size _) hb
    fun F' β' st => ⟨[], Heap.DictOfH.new _, fun x hx => by simp at hx, rfl, fun i x e hx => by simp at hx⟩
  exact ⟨_, _, rfl, [h.objs.size], .own Os.length, l, _, k1, fun b o e _ => push_get _ _ _ e, fun b hb => by rw [List.mem_singleton.mp hb]; exact get_size _, k2, hq⟩

noncomputable def dctA : AO → Option (List (List Int × Int))
  | .dct es => some es
  | _ => none
noncomputable def DicOf (Os : List AO) : AV → Option (List (List Int × Int))
  | .dict es => some es
  | .own j => Os[j]?.bind dctA
  | _ => none
theorem Hold.dic (H : Hold C X env l β Os p h) {v : Value} {a : AV} {es : List (List Int × Int)} (hv : Is C (Fb X env β) β h v a) (hd : DicOf Os a = some es) : ∃ D xs, v = .ref D ∧ h.DictOfH C.knd D xs ∧ RelD xs es ∧ (D == sysModules) = false ∧ (∀ x ∈ xs, ¬ Fb X env β x.2.1) := by
  cases hv with
  | dict hf hm hd' hks hl hes => cases hd; exact ⟨_, _, rfl, hd', ⟨hl, hes⟩, hm, hks⟩
  | own i b hb =>
    have hd : Os[i]?.bind dctA = some es := hd
    cases ho : Os[i]? with
    | none => rw [ho] at hd; cases hd
    | some o =>
      rw [ho] at hd
      have hi := H.objs i b o hb ho
      cases o with
      | lst ys => cases hd
      | fix ys => cases hd
      | dct es' => cases hd; obtain ⟨xs, h1, h2, h3, h4⟩ := hi; exact ⟨b, xs, rfl, h1, ⟨h3, h4⟩, C.not_mods (H.new b (List.mem_cons_of_mem _ (List.mem_append_right _ (List.mem_of_getElem? hb)))).1, h2⟩
  | _ => cases hd
theorem room_in1 {A : Around} (r : Room d A) : C.knd.room A.in1 := tupleKind_room_in1 (by have := r.un; lia  )

/-- a dict read at a key that it has -/
theorem getD_prim {value slice : Expr} {o i : Value} {a : AV} {es : List (List Int × Int)} {ks : List Int} {z : Int} {Q : AV → List (Str × AV) → List AO → Prop} (ho : (o, a) ∈ p) (hi : (i, itup ks) ∈ p) (hs : DicOf Os a = some es) (hx : atD es ks = some z) (hq : Q (.int z) l Os)
    (hsub : ∀ o i, subscripted slice false o i = PySem.operate [o, i] (getItem o i) := by intros; rfl) : Wi C d env p RV (subscriptTail value slice o i) l Os Q := by
  refine Wi.prim (x := .int z) (fun X β h H A tk r Q' hQ' => ?_) hq
  obtain ⟨D, xs, rfl, hD, hrel, hm, _⟩ := H.dic (H.pend _ _ ho) hs
  obtain ⟨b, rfl, _, hk⟩ := key_of (H.pend _ _ hi)
  rcases at_rel ks hrel with ⟨_, h2⟩ | ⟨pp, u, t, h1, h2, h3⟩
  · rw [h2] at hx; cases hx
  · rw [h2] at hx; cases hx
    exact tail_any hD.typeIs slot_dict_getitem.lookup (wpAny_getItem_heap (s := (C.at h tk)) (room_in1 r) hk hD h1 (by rw [h3]; exact hQ' _ _ _ (fun _ _ e => e) (.int _ _))) (hsub _ _)
theorem E_DSub {value slice : Expr} {pos : Pos} {Q : AV → List (Str × AV) → List AO → Prop} (hv : WE C d env value l Os (fun a l1 O1 => WE C d env slice l1 O1 (fun i l2 O2 => ∃ es ks z, DicOf O2 a = some es ∧ i = itup ks ∧ atD es ks = some z ∧ Q (.int z) l2 O2)))
    (hsub : ∀ o i, subscripted slice false o i = PySem.operate [o, i] (getItem o i) := by intros; rfl) : WE C d env (.Subscript value slice pos) l Os Q := fun p => by
  show Wi C d env p RV (eval value env >>= fun o => holding [o] (eval slice env) >>= fun i => standAt pos >>= fun _ => subscriptTail value slice o i) l Os Q
  refine Wi.bindV ((hv p).mono fun a l1 O1 h1 o => ?_)
  refine Wi.bindV (Wi.holding ((h1 ((o, a) :: p)).mono fun i l2 O2 zz u => Wi.standAt ?_))
  obtain ⟨es, ks, z, h2, h3, h4, h5⟩ := zz
  subst h3
  exact getD_prim (.tail _ (.head _)) (.head _) h2 h4 h5 hsub

theorem stored_mem {xs : List (List Int × Addr × Value)} {k : List Int} {a : Addr} {v : Value} {x : List Int × Addr × Value} (h : x ∈ storedH xs k a v) : x.2.1 = a ∨ ∃ y ∈ xs, x.2.1 = y.2.1 := by
  unfold storedH at h
  split at h
  · obtain ⟨y, hy, rfl⟩ := List.mem_map.mp h
    refine .inr ⟨y, hy, ?_⟩
    unfold putAt; split <;> rfl
  · rcases List.mem_append.mp h with h | h
    · exact .inr ⟨x, h, rfl⟩
    · rw [List.mem_singleton.mp h]; exact .inl rfl
theorem setD_prim {o i v : Value} {j : Nat} {es : List (List Int × Int)} {ks : List Int} {z : Int} {Q : Unit → List (Str × AV) → List AO → Prop} (ho : (o, .own j) ∈ p) (hi : (i, itup ks) ∈ p) (hv : (v, .int z) ∈ p) (hl : Os[j]? = some (.dct es)) (hn : es.length ≤ 10000)
    (hq : Q () l (Os.set j (.dct (putD es ks z)))) : Wi C d env p RU (setItem o i v) l Os Q := by
  intro X β h H A tk r
  obtain ⟨t, rfl⟩ := is_int (H.pend _ _ hv)
  obtain ⟨k, rfl, hkF, hk⟩ := key_of (H.pend _ _ hi)
  obtain ⟨b, hb, xs, hD, hks, hlen, hes⟩ := H.own hl
  have : o = .ref b := by
    cases H.pend _ _ ho with
    | own _ b' hb' => rw [hb] at hb'; cases hb'; rfl
  subst this
  have hm : b ∈ mine env β := List.mem_cons_of_mem _ (List.mem_append_right _ (List.mem_of_getElem? hb))
  have hrel := put_rel (xs := xs) (es := es) ⟨hlen, hes⟩ ks k z t
  refine wpAny_setItem_heap (s := (C.at h tk)) (room_in1 r) hk hD (fun h' hD' hs => ⟨h', _, rfl, Post.same (H.setOwn (o' := .dct (putD es ks z)) hb hl hs ⟨_, hD', fun x hx => ?_, hrel.1, hrel.2⟩) (fun b' o e hb' => (hs.2 b' fun q => hb' (q ▸ hm)).trans e) trivial hq⟩) (by rw [hlen]; exact Nat.le_trans hn (by decide +kernel))
  rcases stored_mem hx with q | ⟨y, hy, q⟩
  · rw [q]; exact hkF
  · rw [q]; exact hks y hy
theorem G_SetD {o i : Expr} {pos : Pos} {z : Int} {Q : List (Str × AV) → List AO → Prop}
    (ho : WE C d env o l Os (fun c l1 O1 => WE C d env i l1 O1 (fun b l2 O2 => ∃ j es ks, c = .own j ∧ b = itup ks ∧ O2[j]? = some (.dct es) ∧ es.length ≤ 10000 ∧ Q l2 (O2.set j (.dct (putD es ks z)))))) :
    WG C d env (.Subscript o i pos) (.int z) l Os Q := fun p v hv => by
  have e : ∃ g : Value → Value → List Value, assign (.Subscript o i pos) env v = (holding [v] (eval o env) >>= fun ov => holding [v, ov] (eval i env) >>= fun iv => standAt pos >>= fun _ => holding [v, ov, iv] (setItem ov iv v) >>= fun _ => release (g ov iv) []) := ⟨_, rfl⟩
  obtain ⟨g, e⟩ := e
  rw [e]
  refine Wi.bindV (Wi.holding ((ho p).mono fun c l1 O1 h1 ov => ?_))
  refine Wi.bindV (Wi.holding ((h1 ((ov, c) :: p)).mono fun b l2 O2 zz iv => Wi.standAt ?_))
  obtain ⟨j, es, ks, e1, e2, e3, e4, e5⟩ := zz
  subst e1; subst e2
  refine Wi.bindO (R := RU) (Wi.holding (setD_prim (.tail _ (.head _)) (.head _) (.tail _ (.tail _ hv)) e3 e4 ?_))
  intro _ _
  intro X β h H A tk r
  exact wpAny_release ⟨h, tk, rfl, Post.same (a := ()) H (Pres.refl env β h) trivial e5⟩

/-- d.get(k, 0) -/
theorem E_DGet {o e f : Expr} {apos pos : Pos} {Q : AV → List (Str × AV) → List AO → Prop} (hbase : attributeBase o "get" env (eval o env) = eval o env) (hline : (apos.endLine == pos.line) = true)
    (htrees : backTo pos (starEach [e, f] env) = [(false, eval e env), (false, eval f env)])
    (ho : WE C d env o l Os (fun a l1 O1 => ∃ es, DicOf O1 a = some es ∧ WE C d env e l1 O1 (fun b l2 O2 => O2 = O1 ∧ WE C d env f l2 O2 (fun c l3 O3 => O3 = O2 ∧ ∃ ks z, b = itup ks ∧ c = .int z ∧ Q (.int ((atD es ks).getD z)) l3 O3)))) :
    WE C d env (.Call (.Attribute o "get" apos) [e, f] [] pos) l Os Q := fun p X β h H A tk r => by
  refine wpAny_Call_method (T := "dict") (id := "dict.get") hbase (by rw [htrees]; rfl) hline F.plainAttrs_dict F.slot_dict_get (by rfl) ?_
  refine wpAny_mono (ho p X β h H A tk r) (fun ov s1 zz => ?_) fun _ _ e => e
  obtain ⟨h1, tk1, e1, β1, a, l1, O1, g1, g2, g3, g4, es, hd, he⟩ := zz
  subst e1
  have g1' := g1.push g4
  obtain ⟨D, xs, rfl, hD, hrel, hm, hks⟩ := g1.dic g4 hd
  refine ⟨hD.typeIs, fun a' ea => ?_, ?_⟩
  · cases ea
    obtain ⟨ob, _, _, hob, hx, _⟩ := hD
    exact ⟨ob, hob, hx.2.1⟩
  rw [htrees]
  refine wpAny_dict_get2_heap (knd := C.knd) (room_in1 r) hm ?_
  refine wpAny_mono (he _ X (β ++ β1) h1 g1' A tk1 r) (fun kv s2 zz => ?_) fun _ _ e => e
  obtain ⟨h2, tk2, e2, β2, b, l2, O2, k1, k2, k3, k4, eO, hf⟩ := zz
  subst e2; subst eO
  have k1' := k1.push k4
  refine wpAny_mono (hf _ X (β ++ β1 ++ β2) h2 k1' A tk2 r) (fun dv s3 zz => ?_) fun _ _ e => e
  obtain ⟨h3, tk3, e3, β3, c, l3, O3, m1, m2, m3, m4, eO, ks, z, eb, ec, hq⟩ := zz
  subst e3; subst eO; subst eb; subst ec
  obtain ⟨D', xs', eD, hD', hrel', _, _⟩ := m1.dic (m1.pend _ _ (.tail _ (.head _))) hd
  cases eD
  obtain ⟨kb, rfl, _, hkb⟩ := key_of (m1.pend _ _ (.head _))
  obtain ⟨t, rfl⟩ := is_int m4
  refine ⟨kb, ks, xs', rfl, hkb, hD', ?_⟩
  have fin : ∀ v, Is C (Fb X env (β ++ β1 ++ β2 ++ β3)) (β ++ β1 ++ β2 ++ β3) h3 v (.int ((atD es ks).getD z)) → Ends C (Post C X env β p h RV Q v) (C.at h3 (tk3 + C.knd.draws ks)) := fun v hv => by
    refine ⟨h3, _, rfl, ?_⟩
    have mw := m1.weak (p' := p) fun _ hx => .tail _ (.tail _ hx)
    have kw := k1.weak (p' := p) fun _ hx => .tail _ hx
    have post : Post C X env (β ++ β1 ++ β2 ++ β3) p h3 RV Q v h3 := Post.same mw (Pres.refl env _ h3) hv hq
    exact ((post.trans' kw mw m2 m3).trans' g1 kw k2 k3).trans' H g1 g2 g3
  rcases at_rel ks hrel' with ⟨q1, q2⟩ | ⟨pp, u, t', q1, q2, q3⟩
  · rw [q1]
    refine fin _ ?_
    rw [q2]; exact .int _ _
  · rw [q1]
    refine fin _ ?_
    rw [q2]
    show Is _ _ _ _ pp.2 (.int u)
    rw [q3]; exact .int _ _
end
-- M34
section
variable {C : Cx} {d : Nat} {env : Env} {p : List (Value × AV)} {l : List (Str × AV)} {Os : List AO} {X : Addr → Prop} {β : List Addr} {h h' : Heap}
/-- tuple(a list) -/
theorem E_TupOf {x : Str} {np pos : Pos} {e : Expr} {Q : AV → List (Str × AV) → List AO → Prop} (hx : x = ("tuple" : Str)) (hk : env.kindOf x = some .globalImplicit)
    (ha : WE C d env e l Os (fun a l1 O1 => ∃ xs, (∀ zs, a ≠ .tup zs) ∧ SeqOf O1 a = some xs ∧ xs.length ≤ 10000 ∧ Q (.tup xs) l1 O1)) (he : starEach [e] env = [(false, eval e env)] := by rfl)
    (hc : eval (.Call (.Name x np) [e] [] pos) env = (do callWith pos (← eval (.Name x np) env) [] (backTo pos (starEach [e] env)) (backToKw pos (keywordEach [] env))) := by rfl) : WE C d env (.Call (.Name x np) [e] [] pos) l Os Q := by
  subst hx
  refine E_callB (f := .type "tuple") (by decide +kernel) (by decide +kernel) hk (by decide +kernel) (by decide +kernel) (.inl ⟨_, rfl⟩) (A_cons (fun p => (ha p).mono fun a l1 O1 zz => A_nil fun p vs hl hp => ?_) he) he rfl hc
  obtain ⟨xs, g0, g1, g2, g3⟩ := zz
  obtain ⟨v, rfl⟩ := len1 hl
  refine Wi.prim (x := .tup xs) (fun X β h H A tk r Q' hQ' => ?_) g3
  obtain ⟨b, vs, rfl, hv, hkd⟩ := H.seq (H.pend v a (hp 0 v a rfl rfl)) g1
  rcases hkd with hL | ⟨⟨zs, hz⟩, _⟩
  · refine call_tuple_list hL (fun h' hk => ?_) (by rw [List.size_toArray, hv.1]; exact Nat.le_trans g2 (by decide +kernel))
    have H' := H.keeps hk
    refine hQ' _ _ _ (fun b o e => push_get _ _ _ (hk b o e)) ?_
    exact .tup H'.freshSize ⟨_, Heap.get?_push_size _ rfl, rfl, 0, rfl⟩ hv.1 fun i u y eu ey => (hv.2 i u y eu ey).stable (fun b o _ e => push_get _ _ _ (hk b o e)) (fun b o hb _ => hb) fun _ _ e => e
  · exact absurd hz (g0 zs)
/-- abs(an int) -/
theorem E_abs {x : Str} {np pos : Pos} {e : Expr} {Q : AV → List (Str × AV) → List AO → Prop} (hx : x = ("abs" : Str)) (hk : env.kindOf x = some .globalImplicit)
    (ha : WE C d env e l Os (fun a l1 O1 => ∃ z : Int, a = .int z ∧ Q (.int (z.natAbs : Nat)) l1 O1)) (he : starEach [e] env = [(false, eval e env)] := by rfl)
    (hc : eval (.Call (.Name x np) [e] [] pos) env = (do callWith pos (← eval (.Name x np) env) [] (backTo pos (starEach [e] env)) (backToKw pos (keywordEach [] env))) := by rfl) : WE C d env (.Call (.Name x np) [e] [] pos) l Os Q := by
  subst hx
  refine E_callB (f := .builtin "abs") (by decide +kernel) (by decide +kernel) hk (by decide +kernel) (by decide +kernel) (.inr ⟨_, rfl⟩) (A_cons (fun p => (ha p).mono fun a l1 O1 zz => A_nil fun p vs hl hp => ?_) he) he rfl hc
  obtain ⟨z, g1, g3⟩ := zz
  obtain ⟨v, rfl⟩ := len1 hl
  subst g1
  refine Wi.prim (x := .int (z.natAbs : Nat)) (fun X β h H A tk r Q' hQ' => ?_) g3
  obtain ⟨t, rfl⟩ := is_int (H.pend v _ (hp 0 v _ rfl rfl))
  refine call_abs_int (fun u tk => ?_)
  rw [show (if z < 0 then -z else z) = ((z.natAbs : Nat) : Int) by split <;> omega]
  exact hQ' _ _ _ (fun _ _ e => e) (.int _ _)
/-- int(an int) -/
theorem E_intOf {x : Str} {np pos : Pos} {e : Expr} {Q : AV → List (Str × AV) → List AO → Prop} (hx : x = ("int" : Str)) (hk : env.kindOf x = some .globalImplicit)
    (ha : WE C d env e l Os (fun a l1 O1 => ∃ z : Int, a = .int z ∧ Q (.int z) l1 O1)) (he : starEach [e] env = [(false, eval e env)] := by rfl)
    (hc : eval (.Call (.Name x np) [e] [] pos) env = (do callWith pos (← eval (.Name x np) env) [] (backTo pos (starEach [e] env)) (backToKw pos (keywordEach [] env))) := by rfl) : WE C d env (.Call (.Name x np) [e] [] pos) l Os Q := by
  subst hx
  refine E_callB (f := .type "int") (by decide +kernel) (by decide +kernel) hk (by decide +kernel) (by decide +kernel) (.inl ⟨_, rfl⟩) (A_cons (fun p => (ha p).mono fun a l1 O1 zz => A_nil fun p vs hl hp => ?_) he) he rfl hc
  obtain ⟨z, g1, g3⟩ := zz
  obtain ⟨v, rfl⟩ := len1 hl
  subst g1
  refine Wi.prim (x := .int z) (fun X β h H A tk r Q' hQ' => ?_) g3
  obtain ⟨t, rfl⟩ := is_int (H.pend v _ (hp 0 v _ rfl rfl))
  exact call_int_int (hQ' _ _ _ (fun _ _ e => e) (.int _ _))
end
-- M35
theorem ints_are {C : Cx} {F : Addr → Prop} {β : List Addr} {h : Heap} : ∀ {vs : List Value} {ns : List Int}, vs.length = ns.length → (∀ (i : Nat) v x, vs[i]? = some v → (ns.map AV.int)[i]? = some x → Is C F β h v x) → IntsAre vs ns
  | [], [], _, _ => .nil
  | v :: vs, k :: ks, hl, hx => by
    obtain ⟨t, rfl⟩ := is_int (hx 0 v (.int k) rfl rfl)
    exact .cons k t (ints_are (by simpa using hl) fun i v x e e' => hx (i + 1) v x (by simpa using e) (by simpa using e'))
  | [], _ :: _, hl, _ => by simp at hl
  | _ :: _, [], hl, _ => by simp at hl
theorem are_ints {C : Cx} {F : Addr → Prop} {β : List Addr} {h : Heap} {vs : List Value} {ns : List Int} (H : IntsAre vs ns) : IsL C F β h vs (ns.map AV.int) := by
  induction H with
  | nil => exact ⟨rfl, fun i v x e => by simp at e⟩
  | cons n t _ ih =>
    refine ⟨by simp [ih.1], fun i v x e e' => ?_⟩
    cases i with
    | zero => simp at e e'; subst e; subst e'; exact .int _ _
    | succ i => exact ih.2 i v x (by simpa using e) (by simpa using e')
section
variable {C : Cx} {d : Nat} {env : Env} {p : List (Value × AV)} {l : List (Str × AV)} {Os : List AO} {X : Addr → Prop} {β : List Addr} {h h' : Heap}
/-- sorted(a list of ints) -/
theorem E_sorted {x : Str} {np pos : Pos} {e : Expr} {Q : AV → List (Str × AV) → List AO → Prop} (hx : x = ("sorted" : Str)) (hk : env.kindOf x = some .globalImplicit)
    (ha : WE C d env e l Os (fun a l1 O1 => ∃ ns : List Int, (∀ zs, a ≠ .tup zs) ∧ SeqOf O1 a = some (ns.map .int) ∧ ns.length < 64 ∧ ∃ ms : List Int, (∀ ns', ns'.Perm ns → ns'.Pairwise (· ≤ ·) → ns' = ms) ∧ Q (.list (ms.map .int)) l1 O1)) (he : starEach [e] env = [(false, eval e env)] := by rfl)
    (hc : eval (.Call (.Name x np) [e] [] pos) env = (do callWith pos (← eval (.Name x np) env) [] (backTo pos (starEach [e] env)) (backToKw pos (keywordEach [] env))) := by rfl) : WE C d env (.Call (.Name x np) [e] [] pos) l Os Q := by
  subst hx
  refine E_callB (f := .builtin "sorted") (by decide +kernel) (by decide +kernel) hk (by decide +kernel) (by decide +kernel) (.inr ⟨_, rfl⟩) (A_cons (fun p => (ha p).mono fun a l1 O1 zz => A_nil fun p vs hl hp => ?_) he) he rfl hc
  obtain ⟨ns, g0, g1, g2, ms, g3, g4⟩ := zz
  obtain ⟨v, rfl⟩ := len1 hl
  refine Wi.prim (x := .list (ms.map .int)) (fun X β h H A tk r Q' hQ' => ?_) g4
  obtain ⟨b, vs, rfl, hv, hkd⟩ := H.seq (H.pend v a (hp 0 v a rfl rfl)) g1
  rcases hkd with hL | ⟨⟨zs, hz⟩, _⟩
  · have hvl : vs.length = ns.length := by have := hv.1; simpa using this
    refine sorted_ints hL (ints_are hvl hv.2) (by rw [hvl]; exact g2) fun out ns' a1 a2 a3 => ?_
    obtain ⟨ee, hee⟩ := sortedAll_at h vs out
    have hk : ∀ b o, h.get? b = some o → _ := fun b o e => sortedAll_old (out := out) (vs := vs) e
    have H' := H.keeps hk
    have := g3 ns' a2 a3
    subst this
    refine hQ' _ _ _ hk ?_
    have hnew : h.get? (h.objs.size + 1) = none := by
      cases q : h.get? (h.objs.size + 1) with
      | none => rfl
      | some o => exact absurd (Heap.lt_size q) (Nat.not_lt.mpr (Nat.le_succ _))
    refine .list (vs := out.toList) (H.fresh hnew) ⟨_, hee, rfl, _, rfl⟩ (are_ints (C := C) (F := Fb X env β) (β := β) (h := h) a1).1 (are_ints a1).2
  · exact absurd hz (g0 zs)
end
-- M36
section
variable {C : Cx} {d : Nat} {env : Env} {p : List (Value × AV)} {l : List (Str × AV)} {Os : List AO} {X : Addr → Prop} {β : List Addr} {h h' : Heap}
/-- {k: v}: a dict that nothing changes -/
theorem E_DictOne {ke ve : Expr} {pos : Pos} {Q : AV → List (Str × AV) → List AO → Prop}
    (hk : WE C d env ke l (Os ++ [.dct []]) (fun b l1 O1 => WE C d env ve l1 O1 (fun c l2 O2 => ∃ ks z O3, b = itup ks ∧ c = .int z ∧ O2 = O3 ++ [.dct []] ∧ O3.length = Os.length ∧ (∀ o ∈ O3, NownO o) ∧ l2 = l ∧ Q (.dict [(ks, z)]) l O3))) :
    WE C d env (.Dict [some ke] [ve] pos) l Os Q := fun p X β h H A tk r => by
  refine wpAny_Dict_any rfl rfl (by simp) (by simp) ?_
  have hb : C.s.heap.get? h.objs.size = none := by
    cases e : C.s.heap.get? h.objs.size with
    | none => rfl
    | some o => have := H.base _ _ e; rw [get_size] at this; cases this
  obtain ⟨k1, k2⟩ := H.addOwn (h' := h.push { cls := .type "dict", data := .dict #[] }) (a := h.objs.size) (o := .dct []) (push_get _) (get_size _) hb
    fun F' β' st => ⟨[], Heap.DictOfH.new _, fun x hx => by simp at hx, rfl, fun i x e hx => by simp at hx⟩
  generalize hD : h.objs.size = D at *
  have hDn : h.get? D = none := by rw [← hD]; exact get_size h
  have hkp : ∀ b o, h.get? b = some o → (h.push { cls := .type "dict", data := .dict #[] }).get? b = some o := push_get _
  generalize h.push { cls := .type "dict", data := .dict #[] } = h0 at *
  have key : ∀ (R : Value → Shared → Prop), True := fun _ => trivial
  show wpAny (model P0 C.w) A (eval ke env >>= fun kv => holding [kv] (eval ve env >>= fun x => standAt pos >>= fun _ => pure x) >>= fun vv => holding [kv, vv] (pure []) >>= fun r => pure ((kv, vv) :: r)) _ _ _
  refine wpAny_bind (wpAny_mono (hk p X (β ++ [D]) h0 k1 A tk r) (fun kv s1 zz => ?_) fun _ _ e => e)
  obtain ⟨h1, tk1, e1, β1, b, l1, O1, g1, g2, g3, g4, hv⟩ := zz
  subst e1
  refine wpAny_bind (wpAny_holding (wpAny_bind (wpAny_mono (hv _ X (β ++ [D] ++ β1) h1 (g1.push g4) A tk1 r) (fun vv s2 zz => ?_) fun _ _ e => e)))
  obtain ⟨h2, tk2, e2, β2, c, l2, O2, m1, m2, m3, m4, ks, z, O3, eb, ec, eO, e5, e6, el, hq⟩ := zz
  subst e2; subst eb; subst ec; subst eO; subst el
  refine wpAny_bind (wpAny_standAt (wpAny_pure ?_))
  refine wpAny_bind (wpAny_holding (wpAny_pure (wpAny_pure ?_)))
  have hl := m1.len
  have hl0 := H.len
  have hb1 : β1 = [] ∧ β2 = [] := by
    simp only [List.length_append, List.length_singleton] at hl
    exact ⟨List.eq_nil_of_length_eq_zero (by lia  ), List.eq_nil_of_length_eq_zero (by lia  )⟩
  obtain ⟨rfl, rfl⟩ := hb1
  simp only [List.append_nil] at *
  obtain ⟨t, rfl⟩ := is_int m4
  obtain ⟨kb, rfl, hkF, hkk⟩ := key_of (m1.pend _ _ (.head _))
  obtain ⟨D', hD', xs, hdo, hks, hxl, _⟩ := m1.own (i := O3.length) (o := .dct []) (by simp)
  have : D' = D := by
    rw [e5, ← H.len] at hD'
    simpa using hD'.symm
  subst this
  have : xs = [] := List.eq_nil_of_length_eq_zero (by simpa using hxl)
  subst this
  show wpAny (model P0 C.w) A (storeAll D' [(.ref kb, .int z t)]) _ _ _
  unfold storeAll
  rw [List.forIn_cons]
  have hDm : D' ∈ mine env (β ++ [D']) := by rw [mine_append]; exact List.mem_append_right _ (List.mem_singleton.mpr rfl)
  refine wpAny_bind (wpAny_bind (wpAny_dictSet_heap (s := (C.at h2 tk2)) (knd := C.knd) (show A.units < cLine by have := r.un; lia  ) hkk hdo (fun h3 hd3 hs3 => wpAny_pure ?_) (by decide +kernel)))
  dsimp only
  rw [List.forIn_nil]
  refine wpAny_pure ?_
  have hk3 : ∀ b o, b ≠ D' → h2.get? b = some o → h3.get? b = some o := fun b o hb e => (hs3.2 b hb).trans e
  have M3 := m1.setOwn' (o := .dct []) (o' := .dct [(ks, z)]) hD' (by simp) hk3 ⟨_, hd3, fun x hx => by
    rw [show storedH ([] : List (List Int × Addr × Value)) ks kb (.int z t) = [(ks, kb, .int z t)] from rfl] at hx
    rw [List.mem_singleton.mp hx]; exact hkF, rfl, fun i x e hx he => by
    rw [show storedH ([] : List (List Int × Addr × Value)) ks kb (.int z t) = [(ks, kb, .int z t)] from rfl] at hx
    cases i with
    | succ i => simp at hx
    | zero => simp at hx he; subst hx; subst he; exact ⟨rfl, t, rfl⟩⟩
  rw [List.set_append_right _ _ (Nat.le_refl _), Nat.sub_self] at M3
  have M4 := (M3.weak (p' := p) fun _ hx => .tail _ hx).dropLast H e6
  have hDF : ¬ Fb X env β D' := H.fresh hDn
  refine ⟨h3, _, rfl, [], .dict [(ks, z)], l2, O3, by rw [List.append_nil]; exact M4, fun b o e hb => ?_, by simp, ?_, hq⟩
  · have hne : b ≠ D' := fun q => by rw [q, hDn] at e; cases e
    have hb' : b ∉ mine env (β ++ [D']) := fun hm => by
      rw [mine_append] at hm
      rcases List.mem_append.mp hm with q | q
      · exact hb q
      · exact hne (List.mem_singleton.mp q)
    exact hk3 b o hne (m2 b o (g2 b o (hkp b o e) hb') hb')
  · rw [List.append_nil]
    refine .dict hDF (C.not_mods (m1.new D' hDm).1) hd3 (fun x hx => ?_) rfl fun i x e hx he => ?_
    · rw [show storedH ([] : List (List Int × Addr × Value)) ks kb (.int z t) = [(ks, kb, .int z t)] from rfl] at hx
      rw [List.mem_singleton.mp hx]
      exact fun hf => hkF (hf.imp id fun q => by rw [mine_append]; exact List.mem_append_left _ q)
    · rw [show storedH ([] : List (List Int × Addr × Value)) ks kb (.int z t) = [(ks, kb, .int z t)] from rfl] at hx
      cases i with
      | succ i => simp at hx
      | zero => simp at hx he; subst hx; subst he; exact ⟨rfl, t, rfl⟩
end
-- M37
/-- where the walkers are after one more moment -/
noncomputable def thereM (spots : List Int) (form : Nat) : Nat → List Int
  | 0 => []
  | k + 1 => thereM spots form k ++ [(spots[k]?.getD 0) + ((form / 2 ^ k % 2 : Nat) : Int)]
noncomputable def apartM : List Int → Bool
  | [] => true
  | x :: xs => !xs.contains x && apartM xs
noncomputable def formM (many : Nat) (spots : List Int) (v : Int) (found : List (List Int × Int)) (form : Nat) : List (List Int × Int) :=
  if apartM (thereM spots form many) = true then putD found (thereM spots form many) ((atD found (thereM spots form many)).getD 0 + v) else found
noncomputable def spotM (many : Nat) (found : List (List Int × Int)) (e : List Int × Int) : List (List Int × Int) := (List.range (2 ^ many)).foldl (formM many e.1 e.2) found
noncomputable def laterM (es : List (List Int × Int)) (many : Nat) : List (List Int × Int) := es.foldl (spotM many) []

noncomputable def insM (x : Int) : List Int → List Int
  | [] => [x]
  | y :: ys => if x ≤ y then x :: y :: ys else y :: insM x ys
noncomputable def sortM : List Int → List Int
  | [] => []
  | x :: xs => insM x (sortM xs)
/-- how many before a place have a greater one -/
noncomputable def tooM (es : List Nat) (at_ : Nat) : Nat → Nat
  | 0 => 0
  | k + 1 => tooM es at_ k + if es[at_]?.getD 0 < es[k]?.getD 0 then 1 else 0
/-- the exchanges that an order is away from its own -/
noncomputable def turnsM (es : List Nat) : Nat → Nat
  | 0 => 0
  | k + 1 => turnsM es k + tooM es k k

noncomputable def rowsM (m : Nat) (spots ends : List Nat) : List (List Int) := spots.map fun s => ends.map fun e => aloneM m s e
noncomputable def toI (xs : List Nat) : List Int := xs.map fun (n : Nat) => (n : Int)
noncomputable def dueM (es : List (List Int × Int)) (ends : List Nat) : Int := (atD es (sortM (toI ends))).getD 0
noncomputable def okM (m : Nat) (spots : List Nat) (es : List (List Int × Int)) (ends : List Nat) : Bool :=
  match detM (rowsM m spots ends) with
  | some z => decide (0 ≤ dueM es ends) && decide (dueM es ends < 2 ^ 30) && decide (z = if turnsM ends ends.length % 2 = 1 then -dueM es ends else dueM es ends)
  | none => false
noncomputable def allEnds (n : Nat) : Nat → (List Nat → Bool) → Bool
  | 0, f => f []
  | k + 1, f => (List.range n).all fun x => allEnds n k fun xs => f (x :: xs)
noncomputable def esM (spots : List Nat) : Nat → List (List Int × Int)
  | 0 => [(toI spots, 1)]
  | k + 1 => laterM (esM spots k) spots.length
/-- where the walkers may begin -/
noncomputable def allSp : Nat → List (List Nat)
  | 0 => [[0]]
  | n + 1 => (allSp n).flatMap fun sp => [sp ++ [sp.getLast?.getD 0 + 1 + 0], sp ++ [sp.getLast?.getD 0 + 1 + 1]]
/-- what is wanted of the states before a moment -/
noncomputable def stOk (many : Nat) (es : List (List Int × Int)) : Bool := decide (es.length ≤ 1000) && es.all (fun e => decide (e.1.length = many)) && decide ((es.map (·.1)).Nodup)
noncomputable def lawM (spots : List Nat) (m : Nat) : Bool := allEnds (spots.getLast?.getD 0 + m + 1) spots.length (okM m spots (esM spots m))
-- M38
/-- the entries of a dict -/
noncomputable def DAt (h : Heap) (d : Addr) (es : Array DictEntry) (ep : Nat) : Prop := ∃ o, h.get? d = some o ∧ o.ExactDict ∧ o.data = .dict es ep
theorem DAt.move {h h' : Heap} {d : Addr} {es : Array DictEntry} {ep : Nat} (x : DAt h d es ep) (e : ∀ o, h.get? d = some o → h'.get? d = some o) : DAt h' d es ep := let ⟨o, ho, r⟩ := x; ⟨o, e _ ho, r⟩
section
variable {prog : Program} {w : World} {A : Around} {E : Value → Shared → Prop} {s : Shared}
theorem iter_d {d : Addr} {es : Array DictEntry} {ep : Nat} {Q : Value → Shared → Prop} (hd : (d == sysModules) = false) (hm : DAt s.heap d es ep)
    (hQ : Q (.ref s.heap.objs.size) { s with heap := s.heap.push { cls := .type "dict_keyiterator", data := .fields #[.ref d, .int 0 0, .int es.size 0, .int ep 0] } }) :
    wpAny (model prog w) A (pyIter (.ref d)) Q E s := by
  obtain ⟨o, ho, hc, hdat⟩ := hm
  have hT : s.TypeIs (.ref d) "dict" := ⟨o, ho, hc.1⟩
  refine wpAny_pyIter_slot hT F.slot_dict_iter (wpAny_call_entry F.slot_dict_iter hT F.entry_dict_iter ?_ (F.args_dict_iter_1 _))
  unfold Builtin.«dict.__iter__» Builtin.Dict.dictSlotNone
  refine wpAny_bind (wpAny_bind (wpAny_notOrdered_dict hT ?_))
  refine wpAny_pure (?_ : wpAny _ _ (Builtin.Dict.showsAll d >>= _) _ _ s)
  unfold Builtin.Dict.showsAll
  rw [if_neg (by rw [hd]; decide)]
  refine wpAny_bind (wpAny_pure (wpAny_bind (wpAny_dictEntries ho hdat (wpAny_bind (wpAny_dictEpoch ho hdat ?_)))))
  refine wpAny_bind (wpAny_newObj_type (wpAny_pure ⟨_, rfl, "dict_keyiterator", _, ⟨_, Heap.get?_push_size _ rfl, rfl⟩, F.slot_dict_keyiterator_next.lookup, ?_⟩))
  simpa [rawInt] using hQ

theorem next_d {it d : Addr} {i ep : Nat} {es : Array DictEntry} {e : DictEntry} {Q : Option Value → Shared → Prop} (hit : s.heap.IsKeyIter it d i es.size ep) (hm : DAt s.heap d es ep) (hx : es[i]? = some e)
    (hQ : ∀ h', h'.IsKeyIter it d (i + 1) es.size ep → Heap.SameBut it s.heap h' → Q (some e.key) { s with heap := h' }) : wpAny (model prog w) A (pyNext (.ref it)) Q E s := by
  obtain ⟨o, ho, hc, hd⟩ := id hit
  obtain ⟨od, hod, hcd, hdd⟩ := hm
  have hit' : (s.heap.update it (Obj.mapFields (·.setIfInBounds 1 (rawInt ((i : Int) + 1))))).IsKeyIter it d (i + 1) es.size ep :=
    ⟨_, Heap.get?_update_self _ ho (Obj.isFreed_of_fields (Obj.data_mapFields hd _)), (Obj.cls_mapFields ..).trans hc, by rw [Obj.data_mapFields hd]; simp [rawInt]⟩
  have hown : Builtin.Dict_items.ownsTuple "dict_keyiterator" = false := by decide
  unfold pyNext
  refine wpAny_bind (wpAny_attempt (wpAny_callSpecial?_slot (name := Str.ofString "__next__") hit.typeIs F.slot_dict_keyiterator_next
    (wpAny_call_entry F.slot_dict_keyiterator_next hit.typeIs F.entry_dict_keyiterator_next ?_ (F.args_dict_keyiterator_next_1 _))))
  refine wpAny_bind (wpAny_pure (wpAny_bind (wpAny_bind ?_)))
  first | refine wpAny_bind (wpAny_typeNameOfWhole_keyiter hit.typeIs (wpAny_pure ?_)) | refine wpAny_bind (wpAny_typeNameOf_keyiter hit.typeIs (wpAny_pure ?_))
  refine wpAny_bind (wpAny_fieldsOf ho hd ?_)
  rw [hown]
  rw [if_neg Bool.false_ne_true]
  show wpAny _ _ (if (Value.ref d == Value.none) = true then _ else _) _ _ s
  rw [if_neg (show ¬ ((Value.ref d == Value.none) = true) from Bool.false_ne_true)]
  refine wpAny_bind (wpAny_pure (wpAny_bind (wpAny_dictEntries hod hdd ?_)))
  rw [if_neg (by simp)]
  refine wpAny_bind (wpAny_pure (wpAny_bind (wpAny_dictEpoch hod hdd ?_)))
  rw [if_neg (by simp)]
  refine wpAny_pure ?_
  dsimp only
  rw [if_neg (show ¬ ((i : Int) < 0) from Int.not_lt.mpr (Int.natCast_nonneg i)), Int.toNat_natCast, hx]
  refine wpAny_bind ?_
  first | refine wpAny_bind (wpAny_typeNameOfWhole_keyiter hit.typeIs (wpAny_pure ?_)) | refine wpAny_bind (wpAny_typeNameOf_keyiter hit.typeIs (wpAny_pure ?_))
  refine wpAny_bind (wpAny_isOneOf_keyiter hit.typeIs (?_ : wpAny _ _ (setField (.ref it) 1 (rawInt ((i : Int) + 1)) >>= _) _ _ s))
  refine wpAny_bind (wpAny_setField ho hd (by simp) (wpAny_bind (wpAny_holding ?_)))
  refine wpAny_bind (wpAny_isOneOf_keyiter (s := { s with heap := s.heap.update it (Obj.mapFields (·.setIfInBounds 1 (rawInt ((i : Int) + 1)))) }) hit'.typeIs (?_ : wpAny _ _ (pure e.key) _ _ _))
  exact wpAny_pure (wpAny_pure ⟨_, rfl, wpAny_pure (hQ _ hit' (Heap.SameBut.update ..))⟩)

theorem end_d {it d : Addr} {ep : Nat} {es : Array DictEntry} {Q : Option Value → Shared → Prop} (hh : A.handled = none) (hit : s.heap.IsKeyIter it d es.size es.size ep) (hm : DAt s.heap d es ep)
    (hQ : ∀ h', Heap.ExtBut it s.heap h' → Q none { s with heap := h' }) : wpAny (model prog w) A (pyNext (.ref it)) Q E s := by
  obtain ⟨o, ho, hc, hd⟩ := id hit
  obtain ⟨od, hod, hcd, hdd⟩ := hm
  have hown : Builtin.Dict_items.ownsTuple "dict_keyiterator" = false := by decide
  unfold pyNext
  refine wpAny_bind (wpAny_attempt (wpAny_callSpecial?_slot (name := Str.ofString "__next__") hit.typeIs F.slot_dict_keyiterator_next
    (wpAny_call_entry F.slot_dict_keyiterator_next hit.typeIs F.entry_dict_keyiterator_next ?_ (F.args_dict_keyiterator_next_1 _))))
  refine wpAny_bind (wpAny_pure (wpAny_bind (wpAny_bind ?_)))
  first | refine wpAny_bind (wpAny_typeNameOfWhole_keyiter hit.typeIs (wpAny_pure ?_)) | refine wpAny_bind (wpAny_typeNameOf_keyiter hit.typeIs (wpAny_pure ?_))
  refine wpAny_bind (wpAny_fieldsOf ho hd ?_)
  rw [hown]
  rw [if_neg Bool.false_ne_true]
  show wpAny _ _ (if (Value.ref d == Value.none) = true then _ else _) _ _ s
  rw [if_neg (show ¬ ((Value.ref d == Value.none) = true) from Bool.false_ne_true)]
  refine wpAny_bind (wpAny_pure (wpAny_bind (wpAny_dictEntries hod hdd ?_)))
  rw [if_neg (by simp)]
  refine wpAny_bind (wpAny_pure (wpAny_bind (wpAny_dictEpoch hod hdd ?_)))
  rw [if_neg (by simp)]
  refine wpAny_pure ?_
  dsimp only
  rw [if_neg (show ¬ (((es.size : Nat) : Int) < 0) from Int.not_lt.mpr (Int.natCast_nonneg _)), Int.toNat_natCast, Array.getElem?_eq_none (Nat.le_refl es.size)]
  refine wpAny_bind ?_
  first | refine wpAny_bind (wpAny_typeNameOfWhole_keyiter hit.typeIs (wpAny_pure ?_)) | refine wpAny_bind (wpAny_typeNameOf_keyiter hit.typeIs (wpAny_pure ?_))
  refine (?_ : wpAny _ _ (setField (.ref it) 0 .none >>= _) _ _ s)
  refine wpAny_bind (wpAny_setField ho hd (by simp) (?_ : wpAny _ _ (newExc (.type "StopIteration") [] >>= _) _ _ _))
  refine wpAny_bind ?_
  simp only [newExc, newTuple]
  refine wpAny_bind (wpAny_newObj_type ?_ (by size_fits))
  refine wpAny_bind (m := firstArgMember _ _) (wpAny_of_eq (a := Value.none) (by first | rfl | (simp only [firstArgMember]; rfl)) ?_)
  refine wpAny_newObj_type ?_ (by size_fits)
  unfold raiseNew
  refine wpAny_bind (wpAny_handled ?_)
  rw [show A.in1.handled = none from hh]
  refine wpAny_bind (wpAny_pure (wpAny_throw ?_))
  refine wpAny_bind (wpAny_isInstance (T := "StopIteration") (b := true) ⟨_, Heap.get?_push_size _ rfl, rfl⟩ isSubtype_stop ?_)
  exact wpAny_pure (hQ _ (((Heap.SameBut.update ..).extBut.push _).push _))
end
theorem walk_d {C : Cx} {A : Around} {x : Str} {px : Pos} (hh : A.handled = none) (I d : Addr) (hne : d ≠ I) (es : Array DictEntry) (ep : Nat) :
    WalkG C A (.Name x px) I [I, d] [I] es.size (fun i v _ _ => ∃ e, es[i]? = some e ∧ v = e.key) (fun i h => h.IsKeyIter I d i es.size ep ∧ DAt h d es ep) where
  sub := fun b hb => by rw [List.mem_singleton.mp hb]; exact List.mem_cons_self ..
  frame := fun _ _ _ st hk => ⟨st.1.at fun o e => hk I (List.mem_cons_self ..) o e, st.2.move fun o e => hk d (List.mem_cons_of_mem _ (List.mem_singleton.mpr rfl)) o e⟩
  ex := fun i h st b hb => by rw [List.mem_singleton.mp hb]; obtain ⟨o, ho, _⟩ := st.1; exact ⟨o, ho⟩
  item := fun i s Q hi st hQ => by
    have hx : es[i]? = some es[i] := Array.getElem?_eq_getElem hi
    refine next_d st.1 st.2 hx fun h' hit' hs' => wpAny_pure ?_
    exact hQ _ h' s.toks ⟨_, hx, rfl⟩ ⟨hit', st.2.move fun o e => hs'.extBut d o hne e⟩ fun b o hb e => hs'.extBut b o (fun q => hb (List.mem_singleton.mpr q)) e
  done := fun s Q E st hQ => end_d hh st.1 st.2 fun h' he' => hQ h' s.toks fun b o hb e => he' b o (fun q => hb (List.mem_singleton.mpr q)) e
  self := fun _ _ _ _ st hQ => wpAny_pyIter_keyiter st.1 hQ

theorem key_is {C : Cx} {F : Addr → Prop} {β : List Addr} {h : Heap} {ks : List Int} {a : Addr} (hf : ¬ F a) (H : C.knd.is h ks a) : Is C F β h (.ref a) (itup ks) := by
  obtain ⟨o, items, n, ho, hc, hd, hi⟩ := H
  have go : ∀ {ks : List Int} {vs : List Value}, ItemsAre (intKind P0 C.w) ks vs → vs.length = ks.length ∧ ∀ (i : Nat) v x, vs[i]? = some v → (ks.map AV.int)[i]? = some x → Is C F β h v x := by
    intro ks vs hv
    induction hv with
    | nil => exact ⟨rfl, fun i v x e => by simp at e⟩
    | @cons k v ks vs h1 _ ih =>
      refine ⟨by simp [ih.1], fun i u x e e' => ?_⟩
      cases i with
      | zero =>
        simp at e e'; subst e; subst e'
        have : ∃ t, v = .int k t := by
          have h1 : Value.isInt k v = true := h1
          cases v <;> simp [Value.isInt] at h1 <;> first | exact ⟨_, by rw [h1]⟩ | skip
        obtain ⟨t, rfl⟩ := this
        exact .int _ _
      | succ i => exact ih.2 i u x (by simpa using e) (by simpa using e')
  obtain ⟨g1, g2⟩ := go hi
  exact .tup (vs := items.toList) hf ⟨o, ho, hc, n, by rw [hd]⟩ (by simpa using g1) g2

theorem iters_dict {C : Cx} {env : Env} {es : List (List Int × Int)} {x : Str} {px : Pos} : Iters C env (.Name x px) (.dict es) (es.map fun e => itup e.1) := ⟨es.map fun e => itup e.1, fun {p l Os X β h v} H hv d A tk r Q' hQ => by
  have hi := H.pend v _ hv
  cases hi with
  | @dict a xs _ hf hm hd hks hl hes =>
  obtain ⟨o, en, ep, ho, hx, hdat, hen, hkis, _⟩ := hd
  have hD : DAt h a en ep := ⟨o, ho, hx, hdat⟩
  have hsz : en.size = (es.map fun e => itup e.1).length := by rw [size_of_entries hen, hl, List.length_map]
  refine iter_d hm hD ?_
  have hne : a ≠ h.objs.size := Nat.ne_of_lt (Heap.lt_size ho)
  have W := walk_d (C := C) (x := x) (px := px) r.hand h.objs.size a hne en ep
  rw [← hsz] at hQ
  refine hQ _ _ _ (fun i v => ∃ e, en[i]? = some e ∧ v = e.key) _ _ _ _ W ⟨⟨_, Heap.get?_push_size _ rfl, rfl, rfl⟩, hD.move fun o e => push_get _ _ _ e⟩ (push_get _) (fun b hb => ?_) (fun b hb => ?_) (fun i u y hu hy => ?_) fun i v g g' y F β' hu hy _ hr => hr v y hu hy
  · rcases List.mem_cons.mp hb with rfl | hb
    · exact ⟨fun hm => H.freshSize (.inr hm), _, Heap.get?_push_size _ rfl⟩
    · rw [List.mem_singleton.mp hb]
      exact ⟨fun hm => hf (.inr hm), o, push_get _ _ _ ho⟩
  · rw [List.mem_singleton.mp hb]; exact get_size _
  · obtain ⟨e, he, rfl⟩ := hu
    rw [entry_at hen] at he
    obtain ⟨z, hz, rfl⟩ := Option.map_eq_some_iff.mp he
    rw [List.getElem?_map] at hy
    obtain ⟨e', he', rfl⟩ := Option.map_eq_some_iff.mp hy
    obtain ⟨h1, _⟩ := hes i z e' hz he'
    have hzm := List.mem_of_getElem? hz
    show Is _ _ _ _ (.ref z.2.1) _
    rw [← h1]
    exact key_is (hks z hzm) (hkis z hzm)⟩
-- M39
section
variable {prog : Program} {w : World} {A : Around} {E : Value → Shared → Prop} {s : Shared}
/-- set(a tuple of ints) -/
theorem set_tup {l : Addr} {items : Array Value} {ns : List Int} {Q : Value → Shared → Prop} (hh : A.handled = none) (hl : s.heap.IsTuple l items) (hi : IntsAre items.toList ns) (hb : items.size + 1 < scanBound)
    (h : ∀ (h' : Heap) (tk : Nat), h'.SetOf (intKind prog w) s.heap.objs.size (fun k' => (firstMet (fun i => ns.getD i 0) items.size).any (· == k')) (firstMet (fun i => ns.getD i 0) items.size).length →
      (∀ b o, s.heap.get? b = some o → h'.get? b = some o) → Q (.ref s.heap.objs.size) { s with heap := h', toks := tk }) :
    wpAny (model prog w) A (call (.type "set") [.ref l]) Q E s := by
  obtain ⟨c, tl, hmro⟩ := PySem.F.called_set.mro
  have hmade := PySem.F.called_set.made
  have hsub := PySem.F.called_set.sub
  refine wpAny_call (codeAny_of_tree (?_ : wpAny _ _ (callAny (.type "set") _) _ _ _))
  refine wpAny_pure ⟨Code.quiet_builtin _ (by decide +kernel), codeAny_builtin F.entry_type_call ?_⟩
  rw [Around.under_plain (weight_type_call_type "set" [.ref l] []) rfl]
  have k1 := PySem.F.called_set.notType
  have k2 := PySem.F.called_set.canCreate
  have k3 := PySem.F.typeCall_set_1 (.ref l)
  repeat (any_goals (first | assumption | wp_step))
  refine codeAny_mono (code_set_new_1 (.ref l) (E := E) (Q₁ := fun obj s₁ => ∃ led : Bool, obj = .ref s.heap.objs.size ∧ s₁ = { s with heap := s.heap.push { cls := .type "set", dict := none, data := .set #[] 0 (.fresh 0 0 led) } }) fun led => ⟨led, rfl, rfl⟩) fun r s₁ hr => ?_
  cases r with
  | error e => exact hr
  | ok fl =>
  cases fl with
  | ret obj =>
    obtain ⟨led, rfl, rfl⟩ := hr
    generalize hH : s.heap.push { cls := .type "set", dict := none, data := .set #[] 0 (.fresh 0 0 led) } = H at *
    have hold : ∀ b o, s.heap.get? b = some o → H.get? b = some o := fun b o e => by rw [← hH]; exact Heap.get?_push_of_some _ e
    have hS : H.get? s.heap.objs.size = some { cls := .type "set", dict := none, data := .set #[] 0 (.fresh 0 0 led) } := by rw [← hH]; exact Heap.get?_push_size _ rfl
    have hHs : H.objs.size = s.heap.objs.size + 1 := by rw [← hH]; exact Heap.size_push ..
    have hT : Shared.TypeIs { s with heap := H } (.ref s.heap.objs.size) "set" := ⟨_, hS, rfl⟩
    have k4 := PySem.F.called_set.init.lookup
    have k5 := PySem.F.called_set.init.bind (.ref s.heap.objs.size)
    repeat (any_goals (first | assumption | wp_step))
    refine codeAny_mono (codeAny_call_builtin (R := wants (fun r s₂ => r = .none ∧ ∃ h' tk, s₂ = { s with heap := h', toks := tk } ∧
        h'.SetOf (intKind prog w) s.heap.objs.size (fun k' => (firstMet (fun i => ns.getD i 0) items.size).any (· == k')) (firstMet (fun i => ns.getD i 0) items.size).length ∧
        (∀ b o, s.heap.get? b = some o → h'.get? b = some o)) E) PySem.F.called_set.init.plain F.entry_set_init (check_set_init_1 hT ?_)) fun r₂ s₂ hr₂ => ?_
    · obtain ⟨ol, hol, hcl, nl, hdl⟩ := hl
      obtain ⟨ocls, odict, odata, oslots⟩ := ol
      simp only at hcl hdl
      subst hcl; subst hdl
      have hlS : l < s.heap.objs.size := Heap.lt_size hol
      have hol' := hold _ _ hol
      have q1 := F.sub_tuple_set
      have q2 := F.sub_tuple_frozenset
      have q3 : (Value.type "tuple" == Value.type "dict") = false := by decide
      have hl1 : H.IsTuple l items := ⟨_, hol', rfl, nl, rfl⟩
      unfold Builtin.«set.__init__» noKeywords Builtin.Frozenset.updateFrom
      generalize hPI : pyIter = PI
      wp_walk
      subst hPI
      refine wpAny_pyIter_tuple hl1 (wpAny_bind (wpAny_runValue ?_))
      have hh3 : A.in1.in1.in1.handled = none := by simp [hh]
      have hneI : l ≠ H.objs.size := by rw [hHs]; exact Nat.ne_of_lt (Nat.lt_succ_of_lt hlS)
      have hSf : s.heap.objs.size ∉ [H.objs.size, l] := by
        rw [hHs]; simp only [List.mem_cons, List.not_mem_nil, or_false, not_or]
        exact ⟨Nat.ne_of_lt (Nat.lt_succ_self _), Nat.ne_of_gt hlS⟩
      have hval : ∀ (i : Nat) (v : Value), items[i]? = some v → ∃ t, v = .int ((fun i => ns.getD i 0) i) t := fun i v hv => IntsAre.int_at hi i v (by rw [Array.getElem?_toList]; exact hv)
      refine codeAny_set_update_loopS ((Walks.tuple hh3 _ l hneI items).toS) s.heap.objs.size hSf (fun i => ns.getD i 0) hval hb (items.size - 0) 0 _ (by omega) (Nat.zero_le _)
        ⟨⟨_, Heap.get?_push_size _ rfl, rfl, rfl⟩, (hl1.push _)⟩ ?_ ?_
      · exact SetOf_congr ((setObjOf_fresh (knd := intKind prog w) led).setOf (Heap.get?_push_of_some _ hS) (by unfold scanBound; omega)) (fun _ => rfl) rfl
      · intro s' hm hS'
        obtain ⟨h', g', d', tk', os'⟩ := s'
        have eg : g' = s.gens := hm.gens
        have ed : d' = s.drawn := hm.drawn
        have eo : os' = s.os := hm.os
        subst eg; subst ed; subst eo
        refine (?_ : wpAny _ _ _ _ _ _)
        refine wpAny_pure (?_ : wpAny _ _ (ret Value.none) _ _ _)
        refine wpAny_pure ⟨rfl, h', tk', rfl, hS', fun b o e => ?_⟩
        have hlt := Heap.lt_size e
        exact hm.heap b o (by
          simp only [List.mem_cons, List.not_mem_nil, or_false, not_or]
          exact ⟨Nat.ne_of_lt hlt, by rw [hHs]; exact Nat.ne_of_lt (Nat.lt_succ_of_lt hlt)⟩) (Heap.get?_push_of_some _ (hold b o e))
    · cases r₂ with
      | error e => exact hr₂
      | ok fl₂ =>
      cases fl₂ with
      | ret r =>
        obtain ⟨rfl, h', tk, rfl, hS', hk'⟩ := hr₂
        repeat (any_goals (first | assumption | wp_step))
        exact h _ _ hS' hk'
      | _ => exact hr₂.elim
  | _ => exact hr.elim
end
-- M40
/-- how many different ones -/
noncomputable def cntM (ks : List Int) : Nat := (ks.foldl step_dedup []).length
theorem map_getD : ∀ (ks : List Int), (List.range ks.length).map (fun i => ks.getD i 0) = ks
  | [] => rfl
  | k :: ks => by
    rw [List.length_cons, List.range_succ_eq_map, List.map_cons, List.map_map]
    show k :: (List.range ks.length).map (fun i => ks.getD i 0) = _
    rw [map_getD ks]
theorem firstMet_cnt (ks : List Int) : (firstMet (fun i => ks.getD i 0) ks.length).length = cntM ks := by
  unfold firstMet cntM; rw [map_getD]
theorem fold_le (ks : List Int) : ∀ σ : List Int, (ks.foldl step_dedup σ).length ≤ σ.length + ks.length ∧
    ((ks.foldl step_dedup σ).length = σ.length + ks.length ↔ apartM ks = true ∧ ∀ x ∈ ks, x ∉ σ) := by
  induction ks with
  | nil => intro σ; simp [apartM]
  | cons k ks ih =>
    intro σ
    rw [List.foldl_cons]
    obtain ⟨i1, i2⟩ := ih (step_dedup σ k)
    by_cases hk : k ∈ σ
    · have hs : step_dedup σ k = σ := by unfold step_dedup; rw [if_pos (by simpa using hk)]
      rw [hs] at i1 i2 ⊢
      refine ⟨by simp; lia  , ⟨fun h => ?_, fun h => absurd hk (h.2 k (List.mem_cons_self ..))⟩⟩
      rw [List.length_cons] at h; lia
    · have hs : step_dedup σ k = σ ++ [k] := by unfold step_dedup; rw [if_neg (by simpa using hk)]
      rw [hs] at i1 i2 ⊢
      rw [List.length_append, List.length_singleton] at i1 i2
      refine ⟨by rw [List.length_cons]; lia  , ?_⟩
      rw [List.length_cons, show σ.length + (ks.length + 1) = σ.length + 1 + ks.length by lia  , i2]
      rw [show apartM (k :: ks) = (!ks.contains k && apartM ks) from rfl]
      have hc : (!ks.contains k) = true ↔ k ∉ ks := by simp
      rw [Bool.and_eq_true, hc]
      constructor
      · rintro ⟨h1, h2⟩
        refine ⟨⟨fun q => h2 k q (List.mem_append_right _ (List.mem_singleton.mpr rfl)), h1⟩, fun x hx => ?_⟩
        rcases List.mem_cons.mp hx with rfl | hx
        · exact hk
        · exact fun q => h2 x hx (List.mem_append_left _ q)
      · rintro ⟨⟨h1, h2⟩, h3⟩
        refine ⟨h2, fun x hx q => ?_⟩
        rcases List.mem_append.mp q with q | q
        · exact h3 x (List.mem_cons_of_mem _ hx) q
        · rw [List.mem_singleton.mp q] at hx; exact h1 hx
theorem cnt_apart (ks : List Int) (n : Nat) (h : ks.length = n) : ((cntM ks : Int) == (n : Int)) = apartM ks := by
  obtain ⟨_, h2⟩ := fold_le ks []
  have h2 : cntM ks = ks.length ↔ apartM ks = true := by
    unfold cntM; rw [show ([] : List Int).length + ks.length = ks.length by simp] at h2; rw [h2]; simp
  rw [Bool.eq_iff_iff, beq_iff_eq, ← h2, ← h]; lia
theorem cnt_le (ks : List Int) : cntM ks ≤ ks.length := by have := (fold_le ks []).1; simpa [cntM] using this

section
variable {C : Cx} {d : Nat} {env : Env} {p : List (Value × AV)} {l : List (Str × AV)} {Os : List AO} {X : Addr → Prop} {β : List Addr} {h h' : Heap}
/-- len(set(a tuple of ints)) -/
theorem E_LenSet {np np2 pos pos2 : Pos} {e : Expr} {Q : AV → List (Str × AV) → List AO → Prop} (hk : env.kindOf "len" = some .globalImplicit) (hk2 : env.kindOf "set" = some .globalImplicit)
    (ha : WE C d env e l Os (fun a l1 O1 => ∃ ks : List Int, a = itup ks ∧ ks.length < 100 ∧ Q (.int (cntM ks : Nat)) l1 O1)) (he : starEach [e] env = [(false, eval e env)] := by rfl)
    (he2 : starEach [Expr.Call (.Name "set" np2) [e] [] pos2] env = [(false, eval (.Call (.Name "set" np2) [e] [] pos2) env)] := by rfl)
    (hc : eval (.Call (.Name "len" np) [.Call (.Name "set" np2) [e] [] pos2] [] pos) env = (do callWith pos (← eval (.Name "len" np) env) [] (backTo pos (starEach [.Call (.Name "set" np2) [e] [] pos2] env)) (backToKw pos (keywordEach [] env))) := by rfl)
    (hc2 : eval (.Call (.Name "set" np2) [e] [] pos2) env = (do callWith pos2 (← eval (.Name "set" np2) env) [] (backTo pos2 (starEach [e] env)) (backToKw pos2 (keywordEach [] env))) := by rfl) :
    WE C d env (.Call (.Name "len" np) [.Call (.Name "set" np2) [e] [] pos2] [] pos) l Os Q := fun p X β h H A tk r => by
  refine Call_ (callee_prim (f := .builtin "len") H (by decide +kernel) (by decide +kernel) hk (by decide +kernel) (by decide +kernel) ?_) hc
  refine PyProof.Rows.callWith_builtin1 ?_ he2 rfl
  rw [he2]
  refine wpAny_bind ?_
  refine Call_ (callee_prim (f := .type "set") H (by decide +kernel) (by decide +kernel) hk2 (by decide +kernel) (by decide +kernel) ?_) hc2
  refine PyProof.Rows.callWith_type1 ?_ he rfl
  rw [he]
  refine wpAny_bind (wpAny_mono (ha p X β h H A tk r) (fun v s1 zz => ?_) fun _ _ e => e)
  obtain ⟨h1, tk1, e1, β1, a, l1, O1, g1, g2, g3, g4, ks, ea, hlen, hq⟩ := zz
  subst e1; subst ea
  refine wpAny_bind (wpAny_pure ?_)
  refine wpAny_bind (wpAny_holding (wpAny_pure (wpAny_pure ?_)))
  cases g4 with
  | @tup b vs _ hf ht hl hx =>
  have hvl : vs.length = ks.length := by simpa using hl
  have hsz : vs.toArray.size = ks.length := by rw [List.size_toArray, hvl]
  refine set_tup (s := (C.at h1 tk1)) r.hand ht (by simpa using ints_are (C := C) (F := Fb X env (β ++ β1)) (β := β ++ β1) (h := h1) hvl hx) (by rw [hsz]; unfold scanBound; lia  ) fun h2 tk2 hS hk2 => ?_
  refine wpAny_bind (wpAny_pure ?_)
  refine wpAny_bind (wpAny_holding (wpAny_pure (wpAny_pure ?_)))
  rw [hsz, firstMet_cnt] at hS
  obtain ⟨o, es, ep, t, ho, hex, hd, _, _, _, hfit, hn⟩ := hS
  have hcl := cnt_le ks
  refine call_len_set (s := (C.at h2 tk2)) ho hex hd hfit (by rw [hn]; lia  ) ?_
  rw [hn]
  refine ⟨h2, _, rfl, β1, _, l1, O1, g1.keeps hk2, fun b o e hb => hk2 b o (g2 b o e hb), g3, .int _ _, hq⟩

/-- two tuples of a bool and a list of ints, the same -/
theorem ne_same {u v : Value} {b : Bool} {xs : List Nat} {Q : AV → List (Str × AV) → List AO → Prop} (hu : (u, .tup [.bool b, .list (dgs xs)]) ∈ p) (hv : (v, .tup [.bool b, .list (dgs xs)]) ∈ p) (hq : Q (.bool false) l Os) :
    Wi C d env p RV (compareOp .NotEq u v) l Os Q := by
  refine Wi.prim (x := .bool false) (fun X β h H A tk r Q' hQ' => ?_) hq
  have hi := H.pend _ _ hu
  have hj := H.pend _ _ hv
  cases hi with
  | @tup a vs _ hf ht hl hx =>
  cases hj with
  | @tup a' vs' _ hf' ht' hl' hx' =>
  obtain ⟨v1, v2, rfl⟩ := len2 hl
  obtain ⟨w1, w2, rfl⟩ := len2 hl'
  have e1 := is_bool (hx 0 v1 _ rfl rfl)
  have e2 := is_bool (hx' 0 w1 _ rfl rfl)
  have h3 := hx 1 v2 _ rfl rfl
  have h4 := hx' 1 w2 _ rfl rfl
  subst e1; subst e2
  have hun := r.un
  have hE : ∀ {s : Shared}, s = (C.at h tk) → SeqAt.EqAt A.in1 s v2 w2 true := fun {s} es => by
    subst es
    cases h3 with
    | @list c us _ hfc hLc hlc hxc =>
    cases h4 with
    | @list c' us' _ hfc' hLc' hlc' hxc' =>
    by_cases q : c = c'
    · subst q; exact SeqAt.EqAt.same _
    · refine SeqAt.EqAt.of_refs q ?_
      have hsz : us.toArray.size = us'.toArray.size := by simp [hlc, hlc']
      have := SeqAt.RcAt.lists (A := A.in1) (s := (C.at h tk)) (e := fun _ => true) hLc hLc' hsz (show A.units + 1 < cLine by lia  ) (fun j h1 h2 => ?_)
      · rwa [show (List.range us.toArray.size).all (fun _ => true) = true from List.all_eq_true.mpr fun _ _ => rfl] at this
      · have hj1 : j < us.length := by simpa using h1
        have hj2 : j < us'.length := by simpa using h2
        have hjx : j < xs.length := by have := hlc; rw [dgs_len] at this; lia
        obtain ⟨t, ht⟩ := is_int (hxc j us[j] _ (List.getElem?_eq_getElem hj1) (dgs_get (List.getElem?_eq_getElem hjx)))
        obtain ⟨t', ht'⟩ := is_int (hxc' j us'[j] _ (List.getElem?_eq_getElem hj2) (dgs_get (List.getElem?_eq_getElem hjx)))
        have := SeqAt.EqAt.int_int (A := A.in1.in1) (s := (C.at h tk)) (xs[j] : Int) t (xs[j] : Int) t'
        simp only [List.getElem_toArray, ht, ht']
        simpa using this
  show wpAny _ A (richCompare .NotEq (.ref a) (.ref a')) _ _ _
  have := SeqAt.RcNeAt.tuples (A := A) (s := (C.at h tk)) (e := fun _ => true) ht ht' (by lia  ) (fun j h1 h2 => ?_) P0 C.w (fun _ _ => False) Q' (hQ' (.bool false) h tk (fun _ _ e => e) (.bool false))
  · exact this
  · rcases j with _ | _ | j
    · have := SeqAt.EqAt.bool_bool (A := A.in1) (s := (C.at h tk)) b b; simpa using this
    · exact hE rfl
    · exact absurd (Nat.lt_of_succ_lt_succ (Nat.lt_of_succ_lt_succ h1)) (Nat.not_lt_zero _)
end
-- M42
section
variable {C : Cx} {d : Nat} {env : Env} {p : List (Value × AV)} {l : List (Str × AV)} {Os : List AO} {X : Addr → Prop} {β : List Addr} {h h' : Heap}

/-- the inner clause of a comprehension, in one turn of the outer one -/
theorem inner_clause {elt tg iter tg2 iter2 c2 : Expr} {scope : Scope} {pos : Pos} {D : Addr} {n : Nat} {A : Around} {tk : Nat} (r : Room d A) {Q : List (Str × AV) → List AO → Prop} (H : Hold C X env l β Os ((.ref D, .own n) :: p) h)
    (hi : WE C d env iter2 l Os (fun a l4 O4 => ∃ items2, Iters C env tg2 a items2 ∧ ∃ I : List AV → List (Str × AV) → List AO → Prop, I [] l4 O4 ∧
      (∀ done y rest l5 O5, items2 = done ++ y :: rest → I done l5 O5 → WG C d env tg2 y l5 O5 (fun l6 O6 => WT C d env c2 l6 O6 (fun b l7 O7 => (b = true → WE C d env elt l7 O7 (fun v l8 O8 => ∃ bs, O8[n]? = some (.lst bs) ∧ bs.length ≤ 10000 ∧ I (done ++ [y]) l8 (O8.set n (.lst (bs ++ [v]))))) ∧
        (b = false → I (done ++ [y]) l7 O7)))) ∧ (∀ l5 O5, I items2 l5 O5 → Q l5 O5))) :
    TW2 C A (.ListComp elt [⟨tg, iter, [], 0⟩, ⟨tg2, iter2, [c2], 0⟩] scope pos) iter2 env (.ref D) (fun f s' => Ends C (Post C X env β ((.ref D, .own n) :: p) h RF (fun f l4 O4 => f = .next ∧ Q l4 O4) f) s') (C.at h tk) := by
  refine wpAny_mono (hi _ X β h H A tk r) (fun v s1 zz => ?_) fun _ _ e => e.elim
  obtain ⟨h1, tk1, e1, β1, a, l1, O1, g1, g2, g3, g4, items, ⟨raw, hit⟩, I, hI0, hturn, hend⟩ := zz
  subst e1
  refine hit (g1.push g4) (.head _) d A tk1 r _ fun J fp wr P Pv St h2 tk2 W st0 keep hfp hwr hP hPP => ?_
  obtain ⟨H2, hst, hXw, hcw⟩ := g1.into keep hwr (W.ex 0 h2 st0)
  have fin : ∀ s, RR2 C X env ((.ref D, .own n) :: p) wr (β ++ β1) h2 (fun af l2 O2 => af = .next ∧ Q l2 O2) .next s → Ends C (Post C X env β ((.ref D, .own n) :: p) h RF (fun f l4 O4 => f = .next ∧ Q l4 O4) .next) s := fun s x => x.post H g1 g2 g3 keep hwr
  have loop : codeAny (model P0 C.w) A (.compLoop (.ListComp elt [⟨tg, iter, [], 0⟩, ⟨tg2, iter2, [c2], 0⟩] scope pos) 1 (.ref J) (.ref D) env) (fun r s' => match r with | .ok f => Ends C (Post C X env β ((.ref D, .own n) :: p) h RF (fun f l4 O4 => f = .next ∧ Q l4 O4) .next) s' | .error _ => False) (C.at h2 tk2) := by
    refine For_gen2 (Q := fun af l2 O2 => af = .next ∧ Q l2 O2) (TW := TWt C A elt c2 env (.ref D))
      (G := fun s => codeAny (model P0 C.w) A (.compLoop (.ListComp elt [⟨tg, iter, [], 0⟩, ⟨tg2, iter2, [c2], 0⟩] scope pos) 1 (.ref J) (.ref D) env) (fun r s' => match r with | .ok f => Ends C (Post C X env β ((.ref D, .own n) :: p) h RF (fun f l4 O4 => f = .next ∧ Q l4 O4) .next) s' | .error _ => False) s)
      (fun Q Q' s hq hqq => wpAny_mono hq (fun ok s₃ h₃ => ?_) fun _ _ e => e) r H2 W st0 hfp (fun i u y hu hy => hst (hP i u y hu hy)) hXw hcw hPP (fun done l2 O2 => I done l2 O2) hI0 ?_ ?_ (fun l2 O2 hI => ⟨rfl, hend l2 O2 hI⟩)
    · cases ok with
      | false => exact hqq _ _ h₃
      | true => exact wpAny_mono h₃ (fun _ _ h => wpAny_mono h (fun _ _ h => hqq _ _ h) fun _ _ e => e) fun _ _ e => e
    · intro I' turn n s hI
      refine rule_two1 _ _ I' (fun n s hI => wpAny_mono (turn n s hI) (fun r s₁ h₁ => ?_) fun _ _ e => e) n s hI
      cases r with
      | none => exact fin _ h₁
      | some v =>
        refine wpAny_mono h₁ (fun _ s₂ h₂ => wpAny_mono h₂ (fun _ s₃ h₃ => wpAny_mono h₃ (fun ok s₄ h₄ => ?_) fun _ _ e => e) fun _ _ e => e) fun _ _ e => e
        cases ok with
        | false => exact h₄
        | true => exact h₄
    · rintro done y rest l2 O2 e hI p' v' hv'
      refine (hturn done y rest l2 O2 e hI p' v' hv').mono fun _ l3 O3 h3 => ?_
      intro X' β' h' H' tk'
      refine wpAny_mono (h3 _ X' β' h' H' A tk' r) (fun ok s3 zz => ?_) fun _ _ e => e.elim
      obtain ⟨h3', tk3, e3, β3, b, l7, O7, k1, k2, k3, k4, k5, k6⟩ := zz
      subst e3
      rw [show ok = b from k4]
      cases b with
      | false =>
        have post : Post C X' env (β' ++ β3) ((.ref D, .own n) :: p) h3' RF (fun f l3 O3 => match f with | .next | .cont => I (done ++ [y]) l3 O3 | .brk => (AF.next = .next ∧ Q l3 O3) | .ret v => (AF.ret v = .next ∧ Q l3 O3)) .next h3' := Post.same (a := .next) k1 (Pres.refl env _ h3') .next (k6 rfl)
        exact ⟨h3', tk3, rfl, post.trans' H' k1 k2 k3⟩
      | true =>
        have hD' : (β' ++ β3)[n]? = some D := by
          have := k1.pend _ _ (List.mem_cons_self ..)
          cases this with | own _ _ h => exact h
        refine emit_prim (Q := fun l4 O4 => I (done ++ [y]) l4 O4) (n := n) (k5 rfl) X' (β' ++ β3) h3' k1 hD' A tk3 r fun h4 tk4 β4 l' O' m1 m2 m3 m4 => ?_
        have post : Post C X' env (β' ++ β3) ((.ref D, .own n) :: p) h3' RF (fun f l3 O3 => match f with | .next | .cont => I (done ++ [y]) l3 O3 | .brk => (AF.next = .next ∧ Q l3 O3) | .ret v => (AF.ret v = .next ∧ Q l3 O3)) .next h4 := ⟨β4, .next, l', O', m1, m2, m3, .next, m4⟩
        exact ⟨h4, tk4, rfl, post.trans' H' k1 k2 k3⟩
  exact compStart_at loop (W.self 0 _ _ _ st0 loop)

/-- what a turn of a comprehension of two clauses, with a test in the inner one, comes to -/
noncomputable def turnOk2 (C : Cx) (d : Nat) (scope : Scope) (env : Env) (tg tg2 iter2 c2 elt : Expr) (n : Nat) (vs : List (Str × AV)) (items : List AV) (J : Nat → List AV → List AO → Prop) : Prop :=
  ∀ (L : Addr) t y O2 bs, items[t]? = some y → O2[n]? = some (.lst bs) → J t bs O2 → WG C d (cEnv scope env L) tg y vs O2 (fun l3 O3 => WE C d (cEnv scope env L) iter2 l3 O3 (fun a l4 O4 => ∃ items2, Iters C (cEnv scope env L) tg2 a items2 ∧ ∃ I : List AV → List (Str × AV) → List AO → Prop, I [] l4 O4 ∧
    (∀ done y rest l5 O5, items2 = done ++ y :: rest → I done l5 O5 → WG C d (cEnv scope env L) tg2 y l5 O5 (fun l6 O6 => WT C d (cEnv scope env L) c2 l6 O6 (fun b l7 O7 =>
      (b = true → WE C d (cEnv scope env L) elt l7 O7 (fun v l8 O8 => ∃ bs, O8[n]? = some (.lst bs) ∧ bs.length ≤ 10000 ∧ I (done ++ [y]) l8 (O8.set n (.lst (bs ++ [v]))))) ∧
      (b = false → I (done ++ [y]) l7 O7)))) ∧ (∀ l5 O5, I items2 l5 O5 → Sub l5 vs ∧ ∃ bs', O5[n]? = some (.lst bs') ∧ J (t + 1) bs' O5)))

/-- a comprehension of two clauses, with a test in the inner one: a list that nothing changes -/
theorem E_Comp2F {elt tg iter tg2 iter2 c2 : Expr} {scope : Scope} {pos : Pos} {Q : AV → List (Str × AV) → List AO → Prop} (hcl : closureFor scope env = pure (clOf scope env)) (hkd : scope.kind = .function) (hnn : (scope.names.map (·.1)).Nodup)
    (hi : WE C d env iter l Os (fun a l1 O1 => ∃ items vs, Iters C env tg a items ∧ CompOk scope env vs ∧ Sub l1 vs ∧ ∃ J : Nat → List AV → List AO → Prop, J 0 [] (O1 ++ [.lst []]) ∧ turnOk2 C d scope env tg tg2 iter2 c2 elt O1.length vs items J ∧
      ∀ O2 bs, O2[O1.length]? = some (.lst bs) → J items.length bs O2 → ∃ O3, O2 = O3 ++ [.lst bs] ∧ O3.length = O1.length ∧ (∀ o ∈ O3, NownO o) ∧ (∀ b ∈ bs, Nown b) ∧ Q (.list bs) l1 O3))
    (hs : ∀ x, foldedSetIterable iter env x = pure x := by intro _; rfl) (hs2 : ∀ L x, foldedSetIterable iter2 (cEnv scope env L) x = pure x := by intro _ _; rfl) : WE C d env (.ListComp elt [⟨tg, iter, [], 0⟩, ⟨tg2, iter2, [c2], 0⟩] scope pos) l Os Q := fun p X β h H A tk r => by
  rw [eval_ListComp]
  refine comp_coreG (TW := fun L D => TW2 C A (.ListComp elt [⟨tg, iter, [], 0⟩, ⟨tg2, iter2, [c2], 0⟩] scope pos) iter2 (cEnv scope env L) (.ref D)) hcl hkd hnn r H (fun L D => rule_two0 (hs2 L)) (fun L D Q Q' s hq hqq => ?_) (fun p' => (hi p').mono fun a l1 O1 zz => ?_) hs
  rotate_left
  obtain ⟨items, vs, h1, h2, h3, J, h4, h5, h6⟩ := zz
  refine ⟨items, vs, h1, h2, h3, J, h4, ?_, fun β1 β4 D L O2 bs h1' h5' tk5 g1 x1 f1 fD fL f4 hns hDL leave ho hJ => ?_⟩
  rotate_left 2
  · refine wpAny_mono hq (fun _ _ h => wpAny_mono h (fun _ _ h => codeAny_mono h fun r s h => ?_) fun _ _ e => e) fun _ _ e => e
    cases r with
    | ok f => exact hqq _ h
    | error e => exact h
  · intro L D t y O2 bs hy ho hJ p' v hv
    refine (h5 L t y O2 bs hy ho hJ p' v hv).mono fun _ l3 O3 h7 => ?_
    intro X β h H tk
    exact inner_clause r H h7
  · obtain ⟨m, hm⟩ := hns
    refine ⟨m, hm, fun h6' hs6 => ?_⟩
    obtain ⟨w, w2⟩ := leave h6' fun b o hb e => (hs6.2 b hb).trans e
    obtain ⟨O3, e1, e2, e3, e4, e5⟩ := h6 O2 bs ho hJ
    subst e1
    obtain ⟨g3, g4⟩ := comp_frozen g1 w e2 e3 e4
    exact ⟨h6', tk5, rfl, β1, .list bs, l1, O3, g3, x1.trans f1 w2, f1, g4, e5⟩
end
-- M43
theorem get_freed {h : Heap} {L : Addr} : (h.update L fun o => { o with data := .freed }).get? L = none := by
  unfold Heap.update Heap.get?
  dsimp only
  rw [Array.getElem?_modify]
  rw [if_pos rfl]
  cases h.objs[L]? with
  | none => rfl
  | some o => rfl
theorem get_other {h : Heap} {L b : Addr} (hb : b ≠ L) : (h.update L fun o => { o with data := .freed }).get? b = h.get? b := by
  unfold Heap.update Heap.get?
  dsimp only
  rw [Array.getElem?_modify]
  rw [if_neg (Ne.symm hb)]
section
variable {C : Cx} {d : Nat} {env : Env} {p : List (Value × AV)} {l : List (Str × AV)} {Os : List AO} {X : Addr → Prop} {β : List Addr} {h h' : Heap}
/-- name = [.. for ..], where the store comes before the comprehension's names are let go -/
theorem S_CompU {x : Str} {px spos : Pos} {elt tg iter : Expr} {scope : Scope} {pos : Pos} {Q : AF → List (Str × AV) → List AO → Prop} (hsw : swapsWith (.ListComp elt [⟨tg, iter, [], 0⟩] scope pos) (some (.Name x px)) spos.line env = pure true) (hx : env.kindOf x = some .local)
    (hcl : closureFor scope env = pure (clOf scope env)) (hkd : scope.kind = .function) (hnn : (scope.names.map (·.1)).Nodup)
    (hi : WE C d env iter l Os (fun a l1 O1 => ∃ items vs, Iters C env tg a items ∧ CompOk scope env vs ∧ Sub l1 vs ∧ ∃ J : Nat → List AV → List AO → Prop, J 0 [] (O1 ++ [.lst []]) ∧ turnOk C d scope env tg elt O1.length vs items J ∧
      ∀ O2 bs, O2[O1.length]? = some (.lst bs) → J items.length bs O2 → ∃ O3, O2 = O3 ++ [.lst bs] ∧ O3.length = O1.length ∧ (∀ o ∈ O3, NownO o) ∧ (∀ b ∈ bs, Nown b) ∧ Q .next ((x, .list bs) :: l1) O3))
    (hs : ∀ x, foldedSetIterable iter env x = pure x := by intro _; rfl) : WS C d env (.Assign [.Name x px] (.ListComp elt [⟨tg, iter, [], 0⟩] scope pos) spos) l Os Q := fun p X β h H A tk r => by
  rw [exec_Assign_Name_used _ _ _ _ hsw]
  refine wpAny_bind (wpAny_standAt (wpAny_bind ?_))
  show wpAny _ A (do let _ ← comprehension (.ListComp elt [⟨tg, iter, [], 0⟩] scope pos) scope env _ (newList []) false (eval iter env) (some (assign (.Name x px) env))) _ _ _
  refine wpAny_bind (wpAny_mono (comp_coreG (R := fun _ s' => Ends C (Post C X env β p h RF Q .next) s') (TW := fun L D => TW1 C A elt (cEnv scope env L) (.ref D)) hcl hkd hnn r H (fun L D => rule_one) (fun L D Q Q' s hq hqq => hq.mono hqq) (fun p' => (hi p').mono fun a l1 O1 zz => ?_) hs) (fun _ s' hq => wpAny_pure (wpAny_pure hq)) fun _ _ e => e)
  obtain ⟨items, vs, h1, h2, h3, J, h4, h5, h6⟩ := zz
  refine ⟨items, vs, h1, h2, h3, J, h4, turnG h5 r, fun β1 β4 D L O2 bs h1' h5' tk5 g1 x1 f1 fD fL f4 hns hDL leave ho hJ => ?_⟩
  obtain ⟨O3, e1, e2, e3, e4, e5⟩ := h6 O2 bs ho hJ
  subst e1
  -- the comprehension's own names stand apart while the store is made
  obtain ⟨w, w2⟩ := leave (h5'.update L fun o => { o with data := .freed }) fun b o hb e => by rw [get_other hb]; exact e
  obtain ⟨g3, g4⟩ := comp_frozen g1 w e2 e3 e4
  have hk : ∀ b o, (h5'.update L fun o => { o with data := .freed }).get? b = some o → h5'.get? b = some o := fun b o e => by
    by_cases q : b = L
    · subst q; rw [get_freed] at e; cases e
    · rwa [get_other q] at e
  have hLe : ∀ b o, (h5'.update L fun o => { o with data := .freed }).get? b = some o → b ≠ L := fun b o e q => by subst q; rw [get_freed] at e; cases e
  obtain ⟨m, hm⟩ := hns
  have hLo : ∃ o, h5'.get? L = some o := by obtain ⟨o, _, _, ho, _⟩ := hm; exact ⟨o, ho⟩
  have hLC : C.s.heap.get? L = none := by
    cases e : C.s.heap.get? L with
    | none => rfl
    | some o => rw [g1.base L o e] at fL; cases fL
  have M1 : Hold C (fun a => X a ∨ a = L) env l1 (β ++ β1) O3 p h5' := g3.reX (W := fun _ => False) (fun b o _ e => hk b o e) (fun _ _ _ _ => id) (fun _ _ => id) (fun _ _ _ => id) (fun _ _ _ => id)
    (fun b o hb e hx => hx.elim (fun q => hb (.inl q)) (hLe b o e)) (fun a ha => by
      rcases ha with ha | ha
      · obtain ⟨h0, o, e⟩ := g3.xin a ha; exact ⟨h0, o, hk a o e⟩
      · subst ha; exact ⟨hLC, hLo⟩) (fun a ha hx => by
      obtain ⟨_, h0, o, e⟩ := g3.new a ha
      exact hx.elim h0 (hLe a o e)) fun x c e => (g3.cl x c e).1.imp id .inl
  have M2 : Is C (Fb (fun a => X a ∨ a = L) env (β ++ β1)) (β ++ β1) h5' (.ref D) (.list bs) := g4.stable (fun b o _ e => hk b o e) (fun b o hb e hx => by
    rcases hx with (hx | hx) | hx
    · exact hb (.inl hx)
    · exact hLe b o e hx
    · exact hb (.inr hx)) fun _ _ e => e
  refine wpAny_assign_Name ?_
  refine wpAny_mono (store_prim (Q := fun _ l' O' => Q .next l' O') (.inl hx) (.head _) e5 _ _ _ (M1.push M2) A tk5 r) (fun u s7 zz => ?_) fun _ _ e => e
  obtain ⟨h7, tk7, e7, β7, _, l7, O7, k1, k2, k3, _, k5⟩ := zz
  subst e7
  have hLm : L ∉ mine env (β ++ β1) := fun hm => (M1.new L hm).2.1 (.inr rfl)
  refine ⟨m, ?_, fun h8 hs8 => ?_⟩
  · obtain ⟨o, es, ep, ho, r⟩ := hm
    exact ⟨o, es, ep, k2 L o ho hLm, r⟩
  · have hL1 : ∀ b o, h1'.get? b = some o → b ≠ L := fun b o e q => by rw [q, fL] at e; cases e
    have k1' := k1.weak (p' := p) fun _ hx => .tail _ hx
    have M3 : Hold C X env l7 (β ++ β1 ++ β7) O7 p h8 := k1'.reX (W := fun b => b = L) (fun b o hb e => (hs8.2 b hb).trans e) (fun b o hb e hw => hb (.inl (.inr hw))) (fun b hb hw => (k1'.new b hb).2.1 (.inr hw))
      (fun x c e hw => by obtain ⟨_, v, o, ho, _⟩ := g1.cl x c e; exact hL1 c o ho hw) (fun b o e hw => by rw [hw, hLC] at e; cases e) (fun b o hb e hx => hb (.inl (.inl hx)))
      (fun a ha => by
        obtain ⟨h0, o, e⟩ := k1'.xin a (.inl ha)
        obtain ⟨_, o1, e1⟩ := g1.xin a ha
        exact ⟨h0, o, (hs8.2 a (hL1 a o1 e1)).trans e⟩) (fun a ha hx => (k1'.new a ha).2.1 (.inl hx)) fun x c e => (g1.cl x c e).1.imp id id
    have f7 : ∀ b ∈ β7, h1'.get? b = none := fun b hb => by
      cases e : h1'.get? b with
      | none => rfl
      | some o =>
        exfalso
        have hk3 := k3 b hb
        by_cases hmb : b ∈ mine env (β ++ β1)
        · obtain ⟨_, _, o', e'⟩ := M1.new b hmb; rw [hk3] at e'; cases e'
        · have := hk b o (w2 b o e hmb); rw [hk3] at this; cases this
    have post : Post C X env (β ++ β1) p h1' RF Q .next h8 := ⟨β7, .next, l7, O7, M3, fun b o e hb => (hs8.2 b (hL1 b o e)).trans (k2 b o (hk b o (w2 b o e hb)) hb), f7, .next, k5⟩
    exact ⟨h8, tk7, rfl, post.trans' H g1 x1 f1⟩
end
-- M44
section
variable {C : Cx} {d : Nat} {env : Env} {l : List (Str × AV)} {Os : List AO}
/-- for x in a dict of tuples -/
theorem S_ForD {x : Str} {px : Pos} {iter : Expr} {b : List Stmt} {pos : Pos} {Q : AF → List (Str × AV) → List AO → Prop} (hx : env.kindOf x = some .local ∨ (env.kindOf x = some .cell ∧ (env.cells.lookup x).isSome = true))
    (hi : WE C d env iter l Os (fun a l1 O1 => ∃ es, a = .dict es ∧ ∃ I : Nat → List (Str × AV) → List AO → Prop, I 0 l1 O1 ∧
      (∀ t e l2 O2, es[t]? = some e → I t l2 O2 → WB C d env b ((x, itup e.1) :: l2) O2 (Lp (I (t + 1)) (fun l O => Q .next l O) Q)) ∧ (∀ l2 O2, I es.length l2 O2 → Q .next l2 O2)))
    (hs : ∀ x, foldedSetIterable iter env x = pure x := by intro _; rfl) : WS C d env (.For (.Name x px) iter b [] pos) l Os Q := by
  refine S_For (fun p => (hi p).mono fun a l1 O1 ⟨es, ha, I, h0, h1, h2⟩ => ?_) hs
  subst ha
  refine ⟨_, iters_dict, fun done l O => I done.length l O, h0, fun done y rest l2 O2 e hI => ?_, fun l2 O2 hI => h2 l2 O2 (by simpa using hI)⟩
  have hy := take_len e
  rw [List.getElem?_map] at hy
  obtain ⟨z, hz, rfl⟩ := Option.map_eq_some_iff.mp hy
  refine G_Name hx (WB_mono (h1 _ _ _ _ hz hI) fun f l O h => ?_)
  cases f <;> first | exact h | (show I _ _ _; rw [List.length_append]; exact h)
end
theorem thereM_len (spots : List Int) (form : Nat) : ∀ k, (thereM spots form k).length = k
  | 0 => rfl
  | k + 1 => by rw [thereM, List.length_append, thereM_len spots form k]; rfl
theorem putD_len (es : List (List Int × Int)) (k : List Int) (v : Int) : (putD es k v).length ≤ es.length + 1 := by
  unfold putD; split <;> simp
theorem formM_len (many : Nat) (spots : List Int) (v : Int) (fs : List Nat) : ∀ found, (fs.foldl (formM many spots v) found).length ≤ found.length + fs.length := by
  induction fs with
  | nil => intro found; simp
  | cons f fs ih =>
    intro found
    rw [List.foldl_cons]
    have h1 := ih (formM many spots v found f)
    have h2 : (formM many spots v found f).length ≤ found.length + 1 := by
      unfold formM; split
      · exact putD_len _ _ _
      · lia
    rw [List.length_cons]; lia
theorem spotM_len (many : Nat) (es : List (List Int × Int)) : ∀ found, (es.foldl (spotM many) found).length ≤ found.length + es.length * 2 ^ many := by
  induction es with
  | nil => intro found; simp
  | cons e es ih =>
    intro found
    rw [List.foldl_cons]
    have h1 := ih (spotM many found e)
    have h2 : (spotM many found e).length ≤ found.length + 2 ^ many := by
      have := formM_len many e.1 e.2 (List.range (2 ^ many)) found
      rwa [List.length_range] at this
    rw [List.length_cons, Nat.add_mul]; lia
theorem atD_of {es : List (List Int × Int)} (hn : (es.map (·.1)).Nodup) {e : List Int × Int} (h : e ∈ es) : atD es e.1 = some e.2 := by
  induction es with
  | nil => simp at h
  | cons x es ih =>
    rw [List.map_cons, List.nodup_cons] at hn
    unfold atD
    rcases List.mem_cons.mp h with rfl | h
    · rw [List.find?_cons_of_pos (by simp)]; rfl
    · have hne : ¬ x.1 = e.1 := fun q => hn.1 (q ▸ List.mem_map_of_mem (f := (·.1)) h)
      rw [List.find?_cons_of_neg (by simpa using hne)]
      exact ih hn.2 h
theorem take_fold {α β : Type} (f : β → α → β) (b : β) {xs : List α} {t : Nat} {x : α} (h : xs[t]? = some x) : (xs.take (t + 1)).foldl f b = f ((xs.take t).foldl f b) x := by
  rw [take_snoc h, List.foldl_append]; rfl
theorem range_fold {β : Type} (f : β → Nat → β) (b : β) (t : Nat) : (List.range (t + 1)).foldl f b = f ((List.range t).foldl f b) t := by
  rw [List.range_succ, List.foldl_append]; rfl

theorem c_later {C : Cx} (d : Nat) (es : List (List Int × Int)) (many : Nat) (h1 : 1 ≤ many) (h3 : many ≤ 3) (hl : es.length ≤ 1000) (hk : ∀ e ∈ es, e.1.length = many) (hn : (es.map (·.1)).Nodup) :
    WF C (d + 1) 47 [.dict es, .int many] (fun r => r = .dict (laterM es many)) := by
  have hp : 2 ^ many ≤ 8 := Nat.pow_le_pow_right (n := 2) (by decide) h3
  refine WF_introC (ns := ["states", "many"]) (by decide +kernel) rfl (fun pm code doc vs h => by obtain ⟨a, b, rfl⟩ := len2 h; rfl) (by decide +kernel) (by decide +kernel) (by decide +kernel) (by decide +kernel) (by decide +kernel) (by decide +kernel) ?_
  intro L a cd
  refine BK fun K hK => ?_
  walk_at "s"
  walk_at "s"
  refine E_DictNil ?_
  walk_at "go"
  refine S_ForD (.inr ⟨by rfl, by rfl⟩) ?_
  walk_at "go"
  refine ⟨_, rfl, fun t l O => Sub l [("states", .dict es), ("many", .int many), ("found", .own 0)] ∧ O = [.dct ((es.take t).foldl (spotM many) [])], ⟨by walk_at "sub", rfl⟩, ?_, ?_⟩
  · intro t e l O
    refine BK2 fun K hK => ?_
    rintro he ⟨hs, rfl⟩
    have hem := List.mem_of_getElem? he
    have hke := hk e hem
    have hat := atD_of hn hem
    have hlen0 : ((es.take t).foldl (spotM many) []).length ≤ 7992 := by
      have g1 := spotM_len many (es.take t) []
      have g2 := List.length_take_le t es
      have g3 : (es.take t).length < es.length := by rw [List.length_take]; have := (List.getElem?_eq_some_iff.mp he).1; lia
      have g4 : (es.take t).length * 2 ^ many ≤ 999 * 8 := Nat.mul_le_mul (by lia         ) hp
      simp only [List.length_nil] at g1; lia
    generalize hF : (es.take t).foldl (spotM many) [] = F0 at *
    refine WB_sub (sub_in hs rfl) ?_
    walk_at "s"
    refine S_ForR (.inr ⟨by rfl, by rfl⟩) ?_
    walk_at "go"
    refine R_pow ⟨by lia  , by have : Builtin.Int.intBits 2 = 2 := by decide +kernel
                               rw [this]; lia         ⟩ ?_
    refine R_rng1 (n := 2 ^ many) (by rw [Int.toNat_natCast]; simp) (by walk_at "om") ?_
    refine ⟨_, _, _, rfl, fun f l O => Sub l [("spots", itup e.1), ("states", .dict es), ("many", .int many), ("found", .own 0)] ∧ O = [.dct ((List.range f).foldl (formM many e.1 e.2) F0)], ⟨by walk_at "sub", rfl⟩, ?_, ?_⟩
    · rintro f k l O hf hk' ⟨hs, rfl⟩
      have hk2 : k = (f : Int) := by lia
      subst hk2
      have hlen1 : ((List.range f).foldl (formM many e.1 e.2) F0).length ≤ 8000 := by
        have := formM_len many e.1 e.2 (List.range f) F0
        rw [List.length_range] at this; lia
      generalize hG : (List.range f).foldl (formM many e.1 e.2) F0 = G0 at *
      refine WB_sub (sub_in hs rfl) ?_
      walk_at "s"
      walk_at "s"
      refine E_TupOf rfl (by rfl) ?_
      refine E_CompF (by rfl) (by rfl) (by decide +kernel) ?_
      walk_at "go"
      refine R_rng1 rfl (by walk_at "om") ?_
      refine ⟨_, [("spots", itup e.1), ("form", .int f)], iters_rng, ⟨rfl, by decide +kernel, rfl, by rfl⟩, by walk_at "sub", fun t bs O => O = [.dct G0, .lst bs] ∧ bs = (thereM e.1 f t).map .int, ⟨rfl, rfl⟩, ?_, ?_⟩
      · rintro L t y O2 bs hy ho ⟨rfl, rfl⟩
        have ht : t < many := by have := (List.getElem?_eq_some_iff.mp hy).1; simpa using this
        rw [List.getElem?_map, List.getElem?_range ht] at hy
        simp only [Option.map_some, Option.some.injEq] at hy
        subst hy
        have hx : e.1[t]? = some e.1[t] := List.getElem?_eq_getElem (by walk_at "om")
        rw [show (0 : Int) + (t : Int) * 1 = (t : Nat) by walk_at "om"]
        refine G_Name (.inl (by rfl)) ?_
        walk_at "go"
        refine R_idx (k := t) (xs := e.1.map .int) rfl rfl (by rw [List.getElem?_map, hx]; rfl) (by walk_at "om") ?_
        have ht3 : t ≤ 3 := by walk_at "om"
        have hpt : 2 ^ t ≤ 8 := Nat.pow_le_pow_right (n := 2) (by decide) ht3
        walk_at "go"
        refine R_pow ⟨by lia  , by have : Builtin.Int.intBits 2 = 2 := by decide +kernel
                                   rw [this]; lia         ⟩ ?_
        rw [show (2 : Int) ^ ((t : Int)).toNat = ((2 ^ t : Nat) : Int) by rw [Int.toNat_natCast]; simp]
        have hpt0 : 0 < 2 ^ t := Nat.pow_pos (by decide)
        refine R_div' (by lia         ) (by lia         ) ?_
        rw [fdiv_nat]
        walk_at "go"
        refine R_mod (by decide) ?_
        rw [fmod_two]
        walk_at "go"
        refine ⟨_, rfl, by rw [List.length_map, thereM_len]; walk_at "om", by walk_at "sub", rfl, ?_⟩
        rw [thereM, List.map_append, hx]; rfl
      · rintro O2 bs ho ⟨rfl, rfl⟩
        refine ⟨[.dct G0], rfl, rfl, by intro o ho; rw [List.mem_singleton.mp ho]; trivial, ?_, ?_⟩
        · intro b hb
          obtain ⟨z, _, rfl⟩ := List.mem_map.mp hb
          exact .int _
        rw [List.length_map, List.length_range]
        refine ⟨_, (by intro zs; exact nofun), rfl, by rw [List.length_map, thereM_len]; walk_at "om", ?_⟩
        walk_at "s"
        walk_at "s"
        walk_at "s"
        walk_at "s"
        walk_at "s"
        refine E_LenSet (by rfl) (by rfl) ?_
        walk_at "s"
        refine ⟨thereM e.1 f many, rfl, by rw [thereM_len]; walk_at "om", ?_⟩
        walk_at "go"
        rw [cnt_apart _ _ (thereM_len e.1 f many)]
        refine ⟨fun h => ?_, fun h => ?_⟩
        · walk_at "s"
          walk_at "s"
          walk_at "s"
          refine E_DGet (by rfl) (by rfl) (by rfl) ?_
          walk_at "s"
          refine ⟨_, rfl, ?_⟩
          walk_at "s"
          refine ⟨rfl, ?_⟩
          walk_at "s"
          refine ⟨rfl, _, _, rfl, rfl, ?_⟩
          refine E_DSub ?_
          walk_at "s"
          walk_at "s"
          refine ⟨es, e.1, e.2, rfl, rfl, hat, ?_⟩
          walk_at "s"
          refine G_SetD ?_
          walk_at "s"
          walk_at "s"
          refine ⟨0, _, thereM e.1 f many, rfl, rfl, rfl, by walk_at "om", ?_⟩
          walk_at "go"
          refine ⟨by walk_at "sub", ?_⟩
          rw [range_fold, hG, formM, if_pos h]; rfl
        · walk_at "go"
          refine ⟨by walk_at "sub", ?_⟩
          rw [range_fold, hG, formM, if_neg (by rw [h]; decide)]
    · rintro l O ⟨hs, rfl⟩
      refine N_next (WB_sub hs ?_)
      walk_at "go"
      refine ⟨by walk_at "sub", ?_⟩
      rw [take_fold _ _ he, hF]; rfl
  · rintro l O ⟨hs, rfl⟩
    rw [List.take_length]
    refine N_next (WB_sub hs ?_)
    walk_at "go"
    exact ⟨_, _, .inl rfl, .dct rfl (Nat.zero_le _), rfl⟩
-- M45
/-- nothing of the frame's own from n on -/
inductive OLt (n : Nat) : AV → Prop
  | own {i : Nat} : i < n → OLt n (.own i)
  | nown {a : AV} : Nown a → OLt n a
theorem dgs_toI (ns : List Nat) : dgs ns = (toI ns).map AV.int := by simp [dgs, toI]
section
variable {C : Cx} {d : Nat} {env : Env} {p : List (Value × AV)} {l : List (Str × AV)} {Os : List AO} {X : Addr → Prop} {β : List Addr} {h h' : Heap}
theorem BX_next {st : Stmt} {rest : List Stmt} {Q : AF → List (Str × AV) → List AO → Prop} (hs : WS C d env st l Os (fun f l1 O1 => match f with | .next => WBX C d env rest l1 O1 Q | f => Q f l1 O1)) : WBX C d env (st :: rest) l Os Q := by
  intro X β h H
  show Wp C d (exec st env >>= fun f => match f with | .next => execs rest env | f => pure f) h _
  refine Wp.bind ((hs [] X β h H).mono fun f h' zz => ?_)
  obtain ⟨β', af, l1, O1, g1, g2, g3, g4, g5⟩ := zz
  cases g4 with
  | next => exact (g5 X (β ++ β') h' g1).mono fun u h'' zz => by obtain ⟨β2, a2, l2, O2, k1, k2, k3, k4⟩ := zz; exact ⟨β2, a2, l2, O2, k1, g2.trans g3 k2, k3, k4⟩
  | brk => exact Wp.pure ⟨β ++ β', .brk, l1, O1, g1, g2, .brk, g5⟩
  | cont => exact Wp.pure ⟨β ++ β', .cont, l1, O1, g1, g2, .cont, g5⟩
  | ret hi => exact Wp.pure ⟨β ++ β', .ret _, l1, O1, g1, g2, .ret hi, g5⟩
theorem BX_cut {st : Stmt} {rest : List Stmt} {Q : AF → List (Str × AV) → List AO → Prop} (R : List (Str × AV) → List AO → Prop) (hs : WS C d env st l Os (fun f l1 O1 => Cut R Q f l1 O1)) (hR : ∀ l O, R l O → WBX C d env rest l O Q) : WBX C d env (st :: rest) l Os Q :=
  BX_next fun p => (hs p).mono fun f l1 O1 h => by cases f <;> first | exact h | exact hR _ _ h
theorem BXK {ss : List Stmt} {P : AF → List (Str × AV) → List AO → Prop} (h : ∀ K, Kon K P → WBX C d env ss l Os K) : WBX C d env ss l Os P := h P fun _ _ _ x => x
theorem WBX_sub {ss : List Stmt} {c : List (Str × AV)} {Q : AF → List (Str × AV) → List AO → Prop} (hs : Sub l c) (H : WBX C d env ss c Os Q) : WBX C d env ss l Os Q := fun X β h hh => H X β h (hh.sub hs)

/-- the last of the frame's own lists, from now on a list that nothing changes -/
theorem freeze {ss : List Stmt} {x : Str} {xs : List AV} {O3 : List AO} {l' : List (Str × AV)} {Q : AF → List (Str × AV) → List AO → Prop} (hO3 : ∀ o ∈ O3, NownO o) (hxs : ∀ a ∈ xs, Nown a)
    (hs : Sub l ((x, .own O3.length) :: l')) (hl' : ∀ e ∈ l', OLt O3.length e.2) (H : WBX C d env ss ((x, .list xs) :: l') O3 Q) : WBX C d env ss l (O3 ++ [.lst xs]) Q := by
  intro X β h hh
  have h1 := hh.sub hs
  have hlen := h1.len
  rw [List.length_append, List.length_singleton] at hlen
  obtain ⟨β0, D, rfl⟩ : ∃ β0 D, β = β0 ++ [D] := by
    rcases List.eq_nil_or_concat β with e | ⟨β0, D, e⟩
    · rw [e] at hlen; simp at hlen
    · exact ⟨β0, D, by rw [e, List.concat_eq_append]⟩
  have hl0 : β0.length = O3.length := by simpa using hlen
  have hm : ∀ b, b ∈ mine env β0 → b ∈ mine env (β0 ++ [D]) := fun b hb => by rw [mine_append]; exact List.mem_append_left _ hb
  have hF : ∀ b, ¬ Fb X env (β0 ++ [D]) b → ¬ Fb X env β0 b := fun b hb hx => hb (hx.imp id (hm b))
  have hnd := h1.nd
  rw [mine_append, List.nodup_append] at hnd
  have hDm : D ∈ mine env (β0 ++ [D]) := by rw [mine_append]; exact List.mem_append_right _ (List.mem_singleton.mpr rfl)
  have nownSt : ∀ {v a}, Is C (Fb X env (β0 ++ [D])) (β0 ++ [D]) h v a → Nown a → Is C (Fb X env β0) β0 h v a := fun hi hn => (is_nown hi hn β0).stable (fun _ _ _ e => e) (fun b _ hb _ => hF b hb) fun _ _ e => e
  have st : ∀ {v a}, Is C (Fb X env (β0 ++ [D])) (β0 ++ [D]) h v a → OLt O3.length a → Is C (Fb X env β0) β0 h v a := fun hi hn => by
    cases hn with
    | own hlt =>
      cases hi with
      | own i a ha =>
        rw [List.getElem?_append_left (by lia  )] at ha
        exact .own _ a ha
    | nown hn => exact nownSt hi hn
  obtain ⟨D', hD', vs, hpl, hIs⟩ := h1.own (i := O3.length) (o := .lst xs) (by simp)
  have : D' = D := by
    rw [← hl0] at hD'
    simpa using hD'.symm
  subst this
  have hDn : ¬ Fb X env β0 D' := fun hx => by
    rcases hx with hx | hx
    · exact (h1.new D' hDm).2.1 hx
    · exact hnd.2.2 D' hx D' (List.mem_singleton.mpr rfl) rfl
  have G : Hold C X env ((x, .list xs) :: l') β0 O3 [] h := by
    refine ⟨h1.ok, h1.base, h1.xin, hnd.1, fun a ha => h1.new a (hm a ha), h1.ns, h1.cl, h1.cown, h1.capart, fun y av e => ?_, hl0, fun i a o ha ho => ?_, fun v av hp => (nomatch hp)⟩
    · rw [List.lookup_cons] at e
      cases hb : y == x with
      | true =>
        rw [hb] at e; cases e
        obtain ⟨v, hv, hi⟩ := h1.vars y (.own O3.length) (by rw [List.lookup_cons, hb])
        refine ⟨v, hv, ?_⟩
        cases hi with
        | own _ a ha =>
          rw [hD'] at ha; cases ha
          exact .list hDn hpl.isList hIs.1 fun i v x e e' => nownSt (hIs.2 i v x e e') (hxs x (List.mem_of_getElem? e'))
      | false =>
        rw [hb] at e
        obtain ⟨v, hv, hi⟩ := h1.vars y av (by rw [List.lookup_cons, hb]; exact e)
        exact ⟨v, hv, st hi (hl' _ (mem_lookup e))⟩
    · have ho' : (O3 ++ [.lst xs])[i]? = some o := by rw [List.getElem?_append_left (List.getElem?_eq_some_iff.mp ho).1]; exact ho
      exact (h1.objs i a o (get_append i a ha) ho').re (hO3 o (List.mem_of_getElem? ho)) (fun _ e => e) (fun _ _ _ e => e) fun b _ hb _ => hF b hb
  exact (H X β0 h G).mono fun v h' zz => by obtain ⟨β', a, l2, O2, g1, g2, g3, g4⟩ := zz; exact ⟨β', a, l2, O2, g1, fun b o e hb => g2 b o e fun q => hb (hm b q), g3, g4⟩
end
-- M46
section
variable {C : Cx} {d : Nat} {env : Env} {l : List (Str × AV)} {Os : List AO}
theorem R_stepped {m j k : Nat} {o : AO} {xs : List Nat} {K : AV → List AO → Prop} (hm : 0 < m) (hm' : m < 2 ^ 20) (ho : Os[j]? = some o) (hl : LaneIs o k xs) (hk : k ≤ 1000) (hx : xs.length ≤ 100)
    (hK : ∀ (v : Nat) o', v < m → LaneIs o' (k + 1) xs → K (.int v) (Os.set j o')) : CalO C (d + 1) 45 [.own j, .int m] Os K :=
  ⟨j, o, [.int m], rfl, ho, hl.nown, by walk_at "nown", WFo_mono (c_stepped d m hm hm' o k xs hk hx hl) fun r O' ⟨v, h1, h2, o', h3, h4⟩ o'' e => by
    rw [h3] at e; cases e; subst h2; exact hK v _ h1 h4⟩
theorem T_NeSame {L Rr : Expr} {pos : Pos} {Q : Bool → List (Str × AV) → List AO → Prop} (hl : WE C d env L l Os (fun a l1 O1 => WE C d env Rr l1 O1 (fun b l2 O2 => ∃ bb xs, a = .tup [.bool bb, .list (dgs xs)] ∧ b = .tup [.bool bb, .list (dgs xs)] ∧ Q false l2 O2)))
    (hb : behindInMarks .NotEq Rr = false := by rfl) : WT C d env (.Compare L [.NotEq] [Rr] pos) l Os Q := fun p => by
  have e : isTrue (.Compare L [.NotEq] [Rr] pos) env (eval (.Compare L [.NotEq] [Rr] pos) env) = (eval L env >>= fun a => holding [a] (eval Rr env) >>= fun b => standAt pos >>= fun _ => PySem.operate [a, b] (compareOp .NotEq a b) >>= fun c => holding [c] (truthy c)) := by
    show (eval L env >>= fun a => testChain pos a [.NotEq] (markedEach [.NotEq] [Rr] [eval Rr env])) = _
    simp only [markedEach, markedBehindIn, hb]
    rfl
  rw [e]
  refine Wi.bindV ((hl p).mono fun a l1 O1 h1 v => ?_)
  refine Wi.bindV (Wi.holding ((h1 ((v, a) :: p)).mono fun b l2 O2 ⟨bb, xs, e1, e2, h2⟩ u => Wi.standAt ?_))
  subst e1; subst e2
  exact Wi.bindV (Wi.operate (ne_same (Q := fun c l3 O3 => ∀ v, Wi C d env ((v, c) :: _) RB (holding [v] (truthy v)) l3 O3 Q) (.tail _ (.head _)) (.head _) fun w => Wi.holding (truthy_prim (.head _) h2)))
end
theorem last_get {sp : List Nat} (h : sp ≠ []) : sp[sp.length - 1]? = some (sp.getLast?.getD 0) := by
  rw [List.getLast?_eq_getElem?]
  have : sp.length - 1 < sp.length := by have := List.length_pos_iff.mpr h; lia
  rw [List.getElem?_eq_getElem this]; rfl
theorem pick_dgs {sp : List Nat} (h : sp ≠ []) : pick (dgs sp) (-1) = some (.int (sp.getLast?.getD 0 : Nat)) := pick_last (by rw [dgs_len]; exact dgs_get (last_get h))
theorem allSp_ok : ∀ t ∈ [0, 1, 2], ∀ sp ∈ allSp t, sp.length = t + 1 ∧ sp.getLast?.getD 0 ≤ 4 ∧ sp ≠ [] ∧ sp.all (fun x => decide (x ≤ 4)) = true := by decide
theorem allSp_step {t v : Nat} {sp : List Nat} (h : sp ∈ allSp t) (hv : v < 2) : sp ++ [sp.getLast?.getD 0 + 1 + v] ∈ allSp (t + 1) := by
  unfold allSp
  refine List.mem_flatMap.mpr ⟨sp, h, ?_⟩
  match v, hv with
  | 0, _ => exact List.mem_cons_self ..
  | 1, _ => exact List.mem_cons_of_mem _ (List.mem_singleton.mpr rfl)
theorem tooM_le (es : List Nat) (a : Nat) : ∀ k, tooM es a k ≤ k
  | 0 => Nat.le_refl _
  | k + 1 => by have := tooM_le es a k; unfold tooM; split <;> lia
theorem turnsM_le (es : List Nat) : ∀ k, turnsM es k ≤ k * k
  | 0 => Nat.le_refl _
  | k + 1 => by
    have h1 := turnsM_le es k
    have h2 := tooM_le es k k
    unfold turnsM
    rw [Nat.add_mul, Nat.mul_add]; lia
theorem sgs_snoc {w : Nat} {f : Nat → Int} {es : List Nat} {t e : Nat} (h : es[t]? = some e) : sgs w ((es.take t).map f) ++ [sg w (f e)] = sgs w ((es.take (t + 1)).map f) := by
  rw [take_snoc h]; simp [sgs]
theorem allEnds_spec {n : Nat} : ∀ {k : Nat} {f : List Nat → Bool} {xs : List Nat}, allEnds n k f = true → xs.length = k → (∀ x ∈ xs, x < n) → f xs = true
  | 0, f, xs, h, hl, _ => by
    have : xs = [] := List.eq_nil_of_length_eq_zero hl
    subst this; exact h
  | k + 1, f, x :: xs, h, hl, hx => by
    unfold allEnds at h
    have h1 := List.all_eq_true.mp h x (List.mem_range.mpr (hx x (List.mem_cons_self ..)))
    exact allEnds_spec (f := fun ys => f (x :: ys)) h1 (by simpa using hl) fun y hy => hx y (List.mem_cons_of_mem _ hy)
  | k + 1, f, [], _, hl, _ => by simp at hl
theorem insM_perm (x : Int) : ∀ xs : List Int, (insM x xs).Perm (x :: xs)
  | [] => List.Perm.refl _
  | y :: ys => by
    unfold insM
    split
    · exact List.Perm.refl _
    · exact ((insM_perm x ys).cons y).trans (List.Perm.swap x y ys)
theorem sortM_perm : ∀ xs : List Int, (sortM xs).Perm xs
  | [] => List.Perm.refl _
  | x :: xs => (insM_perm x (sortM xs)).trans ((sortM_perm xs).cons x)
theorem insM_sorted (x : Int) : ∀ {xs : List Int}, xs.Pairwise (· ≤ ·) → (insM x xs).Pairwise (· ≤ ·)
  | [], _ => by simp [insM]
  | y :: ys, h => by
    rw [List.pairwise_cons] at h
    unfold insM
    split
    · rename_i hxy
      refine List.pairwise_cons.mpr ⟨fun z hz => ?_, List.pairwise_cons.mpr h⟩
      rcases List.mem_cons.mp hz with rfl | hz
      · exact hxy
      · exact Int.le_trans hxy (h.1 z hz)
    · rename_i hxy
      refine List.pairwise_cons.mpr ⟨fun z hz => ?_, insM_sorted x h.2⟩
      rcases List.mem_cons.mp ((insM_perm x ys).mem_iff.mp hz) with rfl | hz
      · lia
      · exact h.1 z hz
theorem sortM_sorted : ∀ xs : List Int, (sortM xs).Pairwise (· ≤ ·)
  | [] => List.Pairwise.nil
  | x :: xs => insM_sorted x (sortM_sorted xs)
theorem sorted_uniq {xs : List Int} : ∀ ns', ns'.Perm xs → ns'.Pairwise (· ≤ ·) → ns' = sortM xs := fun ns' h1 h2 =>
  (h1.trans (sortM_perm xs).symm).eq_of_pairwise (fun a b _ _ h h' => Int.le_antisymm h h') h2 (sortM_sorted xs)
-- M47
/-- what the plain law says -/
noncomputable def LawOk : Prop := ∀ n, 1 ≤ n → n ≤ 2 → ∀ sp ∈ allSp n, ∀ m, 1 ≤ m → m ≤ 4 → lawM sp m = true ∧ stOk sp.length (esM sp (m - 1)) = true

theorem c_law {C : Cx} (d : Nat) (hU : ConstIs C "UNIT" (.tup [.bool false, .list [.int 1]])) (hN : ConstIs C "NOUGHT" (.tup [.bool false, .list []])) (hlaw : LawOk) (script : List Int) (hsl : script.length ≤ 63) :
    WF C (d + 10) 49 [.list (script.map .int)] (fun r => r = .bool true) := by
  refine WF_introC0 (ns := ["script"]) (by decide +kernel) rfl (fun pm code doc vs h => by obtain ⟨a, rfl⟩ := len1 h; rfl) (by decide +kernel) (by decide +kernel) (by decide +kernel) (by decide +kernel) (by decide +kernel) (by decide +kernel) ?_
  intro L a cd
  refine BXK fun K hK => ?_
  refine BX_cut (fun l O => ∃ (o : AO) (xs : List Nat), Sub l [("lane", .own 0)] ∧ O = [o] ∧ LaneIs o 0 xs ∧ xs.length ≤ 18) ?_ ?_
  · walk_at "s"
    walk_at "s"
    walk_at "s"
    walk_at "s"
    walk_at "s"
    refine E_CompF (by rfl) (by rfl) (by decide +kernel) ?_
    walk_at "go"
    refine ⟨none, some 18, rfl, rfl, ?_⟩
    refine ⟨_, _, none, some 18, (by intro zs; exact nofun), rfl, rfl, rfl, by rw [List.length_map]; walk_at "om", ?_⟩
    refine ⟨_, [], iters_list, ⟨rfl, by decide +kernel, rfl, by rfl⟩, sub_nil, fun t bs O => O = [.lst bs] ∧ bs = dgs (((script.take 18).take t).map Int.natAbs), ⟨rfl, rfl⟩, ?_, ?_⟩
    · intro L t y O2 bs
      refine GK3 fun KG hG => ?_
      rintro hy ho ⟨rfl, rfl⟩
      rw [show (18 : Int).toNat = 18 from rfl, ← List.map_take, List.getElem?_map] at hy
      obtain ⟨z, hz, rfl⟩ := Option.map_eq_some_iff.mp hy
      refine G_Name (.inl (by rfl)) (hG _ _ (EK fun K hK => ?_))
      refine E_abs rfl (by rfl) ?_
      refine E_intOf rfl (by rfl) ?_
      walk_at "go"
      refine ⟨z, rfl, z, rfl, ?_⟩
      walk_at "s"
      refine ⟨_, rfl, ?_, sub_nil, rfl, ?_⟩
      · rw [dgs_len, List.length_map, List.length_take, List.length_take]; lia
      · rw [take_snoc hz, List.map_append, dgs_snoc]; rfl
    · rintro O2 bs ho ⟨rfl, rfl⟩
      refine ⟨[], rfl, rfl, by simp, dgs_nown _, ?_⟩
      walk_at "s"
      walk_at "s"
      refine G_Name (.inr ⟨by rfl, by rfl⟩) ?_
      walk_at "s"
      refine ⟨_, _, by walk_at "sub", rfl, rfl, ?_⟩
      rw [List.length_map, List.length_take, List.length_take]; lia
  rintro l O ⟨o, xs, hs, rfl, ho, hx18⟩
  refine WBX_sub hs ?_
  refine BX_cut (fun l O => ∃ (o : AO) (v1 v2 : Nat), Sub l [("w", .int (4 + v1 : Nat)), ("many", .int (2 + v2 : Nat)), ("spots", .own 1), ("lane", .own 0)] ∧ O = [o, .lst (dgs [0])] ∧ LaneIs o 2 xs ∧ v1 < 5 ∧ v2 < 2) ?_ ?_
  · walk_at "go"
    refine R_stepped (by decide) (by decide) rfl ho (by decide) (by walk_at "om") fun v1 o' hv1 ho' => ?_
    walk_at "go"
    refine R_stepped (by decide) (by decide) rfl ho' (by decide) (by walk_at "om") fun v2 o'' hv2 ho'' => ?_
    walk_at "go"
    refine G_Name (.inr ⟨by rfl, by rfl⟩) ?_
    refine G_Name (.inl (by rfl)) ?_
    refine G_Name (.inr ⟨by rfl, by rfl⟩) ?_
    walk_at "s"
    refine ⟨o'', v1, v2, ?_, rfl, ho'', hv1, hv2⟩
    rw [show ((4 + v1 : Nat) : Int) = 4 + (v1 : Int) by lia         , show ((2 + v2 : Nat) : Int) = 2 + (v2 : Int) by lia         ]
    walk_at "sub"
  rintro l O ⟨o1, v1, v2, hs, rfl, ho1, hv1, hv2⟩
  refine WBX_sub hs ?_
  refine BX_cut (fun l O => ∃ (o : AO) (sp : List Nat), Sub l [("w", .int (4 + v1 : Nat)), ("many", .int (2 + v2 : Nat)), ("spots", .own 1), ("lane", .own 0)] ∧ O = [o, .lst (dgs sp)] ∧ LaneIs o (2 + (1 + v2)) xs ∧ sp ∈ allSp (1 + v2)) ?_ ?_
  · refine S_ForR (.inl (by rfl)) ?_
    walk_at "go"
    refine R_rng1 (n := 1 + v2) (by lia         ) (by walk_at "om") ?_
    refine ⟨_, _, _, rfl, fun t l O => ∃ (o : AO) (sp : List Nat), Sub l [("w", .int (4 + v1 : Nat)), ("many", .int (2 + v2 : Nat)), ("spots", .own 1), ("lane", .own 0)] ∧ O = [o, .lst (dgs sp)] ∧ LaneIs o (2 + t) xs ∧ sp ∈ allSp t, ⟨_, _, by walk_at "sub", rfl, ho1, by decide⟩, ?_, ?_⟩
    · intro t k l O
      refine BK3 fun K hK => ?_
      rintro ht hk ⟨o2, sp, hs, rfl, ho2, hsp⟩
      obtain ⟨s1, s2, s3, s4⟩ := allSp_ok t (by simp; lia         ) sp hsp
      refine WB_sub (sub_in hs rfl) ?_
      walk_at "go"
      refine ⟨_, _, _, rfl, rfl, by decide, pick_dgs s3, ?_⟩
      walk_at "go"
      refine R_stepped (by decide) (by decide) rfl ho2 (by lia         ) (by walk_at "om") fun v o' hv ho' => ?_
      walk_at "go"
      rw [show ((sp.getLast?.getD 0 : Nat) : Int) + 1 + (v : Int) = ((sp.getLast?.getD 0 + 1 + v : Nat) : Int) by lia         ]
      refine R_app2 rfl (by rw [dgs_len]; lia         ) ?_
      rw [dgs_snoc]
      walk_at "go"
      exact ⟨o', _, by walk_at "sub", rfl, ho', allSp_step hsp hv⟩
    · rintro l O ⟨o2, sp, hs, rfl, ho2, hsp⟩
      walk_at "go"
      exact ⟨o2, sp, hs, rfl, ho2, hsp⟩
  rintro l O ⟨o2, sp, hs, rfl, ho2, hsp⟩
  obtain ⟨s1, s2, s3, s4⟩ := allSp_ok (1 + v2) (by simp; lia         ) sp hsp
  refine WBX_sub hs ?_
  refine BX_cut (fun l O => Sub l [("spots", .own 1), ("w", .int (4 + v1 : Nat)), ("many", .int (2 + v2 : Nat)), ("lane", .own 0), ("states", .dict (esM sp 0))] ∧ O = [o2] ++ [.lst (dgs sp)]) ?_ ?_
  · walk_at "s"
    refine E_DictOne ?_
    refine E_TupOf rfl (by rfl) ?_
    walk_at "s"
    refine ⟨dgs sp, (by intro zs; exact nofun), rfl, by rw [dgs_len]; lia         , ?_⟩
    walk_at "s"
    refine ⟨toI sp, 1, [o2, .lst (dgs sp)], by rw [dgs_toI]; rfl, rfl, rfl, rfl, ?_, rfl, ?_⟩
    · intro o ho
      rcases List.mem_cons.mp ho with rfl | ho
      · exact ho2.nown
      · rw [List.mem_singleton.mp ho]; exact dgs_nown _
    walk_at "go"
    exact ⟨by walk_at "sub", rfl⟩
  rintro l O ⟨hs, rfl⟩
  refine freeze (x := "spots") (l' := [("w", .int (4 + v1 : Nat)), ("many", .int (2 + v2 : Nat)), ("lane", .own 0), ("states", .dict (esM sp 0))]) (by intro o ho; rw [List.mem_singleton.mp ho]; exact ho2.nown) (dgs_nown _) hs ?_ ?_
  · intro e he
    simp only [List.mem_cons, List.not_mem_nil, or_false] at he
    rcases he with rfl | rfl | rfl | rfl
    · exact .nown (.int _)
    · exact .nown (.int _)
    · exact .own (by simp)
    · exact .nown (.dict _)
  refine WBX_of ?_
  have hsz : sp.length = 2 + v2 := by lia
  walk_at "s"
  refine S_ForR (.inr ⟨by rfl, by rfl⟩) ?_
  walk_at "go"
  refine R_stepped (by decide) (by decide) rfl ho2 (by lia         ) (by walk_at "om") fun v3 o3 hv3 ho3 => ?_
  have hv3 : v3 < 3 := hv3
  walk_at "go"
  refine R_rng2 (j := 1) (k := 3 + v3) rfl (by lia         ) (by decide) (by walk_at "om") ?_
  refine ⟨_, _, _, rfl, fun t l O => ∃ (o : AO) (k : Nat), Sub l [("spots", .list (dgs sp)), ("w", .int (4 + v1 : Nat)), ("many", .int (2 + v2 : Nat)), ("lane", .own 0), ("states", .dict (esM sp t))] ∧ O = [o] ∧ LaneIs o k xs ∧ k ≤ 6 + 3 * t,
    ⟨_, _, by walk_at "sub", rfl, ho3, by lia         ⟩, ?_, ?_⟩
  · intro t k l O
    refine BK3 fun K hK => ?_
    rintro ht hk ⟨o, kk, hs, rfl, ho, hkk⟩
    have ht4 : t < 4 := by lia
    have hk' : k = ((t + 1 : Nat) : Int) := by lia
    subst hk'
    obtain ⟨hlm, hst⟩ := hlaw (1 + v2) (by walk_at "om") (by walk_at "om") sp hsp (t + 1) (by walk_at "om") (by walk_at "om")
    rw [show t + 1 - 1 = t by walk_at "om"] at hst
    unfold stOk at hst
    simp only [Bool.and_eq_true, decide_eq_true_eq, List.all_eq_true] at hst
    obtain ⟨⟨st1, st2⟩, st3⟩ := hst
    refine WB_sub (sub_in hs rfl) ?_
    walk_at "go"
    refine R_cal (c_later (d + 8) (esM sp t) (2 + v2) (by walk_at "om") (by walk_at "om") st1 (fun e he => by rw [st2 e he, hsz]) st3) (nall_cons (.dict _) (by walk_at "nown")) ?_
    rintro r rfl
    rw [show laterM (esM sp t) (2 + v2) = esM sp (t + 1) by rw [esM, hsz]]
    walk_at "go"
    refine E_CompF (by rfl) (by rfl) (by decide +kernel) ?_
    walk_at "go"
    refine R_rng1 (n := 2 + v2) rfl (by walk_at "om") ?_
    refine ⟨_, [("spots", .list (dgs sp)), ("lane", .own 0), ("moment", .int (t + 1 : Nat))], iters_rng, ⟨rfl, by decide +kernel, rfl, by rfl⟩, by walk_at "sub",
      fun u bs O => ∃ (o' : AO) (k' : Nat) (es : List Nat), O = [o', .lst bs] ∧ LaneIs o' k' xs ∧ k' ≤ kk + u ∧ bs = dgs es ∧ es.length = u ∧ ∀ e ∈ es, e < sp.getLast?.getD 0 + (t + 1) + 1, ⟨_, _, [], rfl, ho, Nat.le_refl _, rfl, rfl, by simp⟩, ?_, ?_⟩
    · intro L u y O2 bs
      refine GK3 fun KG hG => ?_
      rintro hy hO ⟨o', k', es, rfl, ho', hk', rfl, hes, hlt⟩
      have hu : u < 2 + v2 := by have := (List.getElem?_eq_some_iff.mp hy).1; simpa using this
      refine G_Name (.inl (by rfl)) (hG _ _ (EK fun K hK => ?_))
      walk_at "go"
      refine ⟨_, _, _, rfl, rfl, by decide, pick_dgs s3, ?_⟩
      walk_at "go"
      rw [show ((sp.getLast?.getD 0 : Nat) : Int) + ((t + 1 : Nat) : Int) + 1 = ((sp.getLast?.getD 0 + (t + 1) + 1 : Nat) : Int) by lia         ]
      walk_at "go"
      refine R_stepped (by lia         ) (by lia         ) rfl ho' (by lia         ) (by walk_at "om") fun v o'' hv ho'' => ?_
      walk_at "s"
      refine ⟨_, rfl, by rw [dgs_len]; lia         , by walk_at "sub", o'', k' + 1, es ++ [v], rfl, ho'', by lia         , dgs_snoc _ _, by simp [hes], fun e he => ?_⟩
      rcases List.mem_append.mp he with he | he
      · exact hlt e he
      · rw [List.mem_singleton.mp he]; exact hv
    · rintro O2 bs hO ⟨o', k', es, rfl, ho', hk', rfl, hes, hlt⟩
      rw [List.length_map, List.length_range] at hes hk'
      have hno : ∀ o ∈ [o'], NownO o := fun o ho => by rw [List.mem_singleton.mp ho]; exact ho'.nown
      refine ⟨[o'], rfl, rfl, hno, dgs_nown _, ?_⟩
      refine G_Name (.inr ⟨by rfl, by rfl⟩) ?_
      walk_at "s"
      walk_at "s"
      refine S_CompU (by rfl) (by rfl) (by rfl) (by rfl) (by decide +kernel) ?_
      walk_at "s"
      refine ⟨_, [("ends", .list (dgs es)), ("moment", .int (t + 1 : Nat)), ("w", .int (4 + v1 : Nat))], iters_list, ⟨rfl, by decide +kernel, rfl, by rfl⟩, by walk_at "sub",
        fun u bs O => O = [o', .lst bs] ∧ bs = mat (4 + v1) (rowsM (t + 1) (sp.take u) es), ⟨rfl, rfl⟩, ?_, ?_⟩
      · intro L2 u y O2 bs
        refine GK3 fun KG hG => ?_
        rintro hy hO ⟨rfl, rfl⟩
        have hu : u < sp.length := by have := (List.getElem?_eq_some_iff.mp hy).1; rwa [dgs_len] at this
        have hx : sp[u]? = some sp[u] := List.getElem?_eq_getElem hu
        rw [dgs_get hx] at hy; cases hy
        generalize sp[u] = s at *
        refine G_Name (.inr ⟨by rfl, by rfl⟩) (hG _ _ (EK fun K hK => ?_))
        refine E_CompF (by rfl) (by rfl) (by decide +kernel) ?_
        walk_at "s"
        refine ⟨_, [("spot", .int s), ("moment", .int (t + 1 : Nat)), ("w", .int (4 + v1 : Nat))], iters_list, ⟨rfl, by decide +kernel, rfl, by rfl⟩, by walk_at "sub",
          fun j cs O => O = [o', .lst (mat (4 + v1) (rowsM (t + 1) (sp.take u) es)), .lst cs] ∧ cs = sgs (4 + v1) ((es.take j).map fun e => aloneM (t + 1) s e), ⟨rfl, rfl⟩, ?_, ?_⟩
        · intro L3 j y O3 cs
          refine GK3 fun KG hG => ?_
          rintro hy hO ⟨rfl, rfl⟩
          have hj : j < es.length := by have := (List.getElem?_eq_some_iff.mp hy).1; rwa [dgs_len] at this
          have hx2 : es[j]? = some es[j] := List.getElem?_eq_getElem hj
          rw [dgs_get hx2] at hy; cases hy
          generalize es[j] = e at *
          refine G_Name (.inl (by rfl)) (hG _ _ (EK fun K hK => ?_))
          walk_at "go"
          refine R_cal (c_alone (d + 2) (4 + v1) (by walk_at "om") (by walk_at "om") (t + 1) s e (by walk_at "om") (by walk_at "om")) (by walk_at "nown") ?_
          rintro r rfl
          walk_at "s"
          refine ⟨_, rfl, ?_, by walk_at "sub", rfl, sgs_snoc (f := fun e => aloneM (t + 1) s e) hx2⟩
          rw [sgs_len, List.length_map, List.length_take]; lia
        · rintro O3 cs hO ⟨rfl, rfl⟩
          refine ⟨[o', .lst (mat (4 + v1) (rowsM (t + 1) (sp.take u) es))], rfl, rfl, ?_, sgs_nown _ _, ?_⟩
          · intro o ho
            rcases List.mem_cons.mp ho with rfl | ho
            · exact ho'.nown
            · rw [List.mem_singleton.mp ho]; exact mat_nown _ _
          rw [dgs_len, List.take_length]
          walk_at "s"
          refine ⟨_, rfl, ?_, by walk_at "sub", rfl, ?_⟩
          · rw [mat_len, rowsM, List.length_map, List.length_take]; lia
          · rw [take_snoc hx]; simp [rowsM, mat]
      · rintro O2 bs hO ⟨rfl, rfl⟩
        rw [dgs_len, List.take_length]
        refine ⟨[o'], rfl, rfl, hno, mat_nown _ _, ?_⟩
        walk_at "s"
        walk_at "s"
        walk_at "s"
        refine E_DGet (by rfl) (by rfl) (by rfl) ?_
        walk_at "s"
        refine ⟨_, rfl, ?_⟩
        refine E_TupOf rfl (by rfl) ?_
        refine E_sorted rfl (by rfl) ?_
        walk_at "s"
        refine ⟨toI es, (by intro zs; exact nofun), by rw [← dgs_toI]; rfl, by rw [toI, List.length_map]; lia         , sortM (toI es), sorted_uniq, ?_⟩
        refine ⟨_, (by intro zs; exact nofun), rfl, by rw [List.length_map, (sortM_perm _).length_eq, toI, List.length_map]; lia         , ?_⟩
        refine ⟨rfl, ?_⟩
        walk_at "s"
        refine ⟨rfl, sortM (toI es), 0, rfl, rfl, ?_⟩
        have hok := allEnds_spec (f := okM (t + 1) sp (esM sp (t + 1))) (xs := es) hlm (by lia         ) hlt
        unfold okM at hok
        split at hok
        case h_2 => cases hok
        rename_i z hz
        simp only [Bool.and_eq_true, decide_eq_true_eq] at hok
        obtain ⟨⟨q1, q2⟩, q3⟩ := hok
        rw [show (atD (esM sp (t + 1)) (sortM (toI es))).getD 0 = dueM (esM sp (t + 1)) es from rfl]
        obtain ⟨due, hdue⟩ := Int.eq_ofNat_of_zero_le q1
        rw [hdue] at q2 q3 ⊢
        rw [hes] at q3
        walk_at "go"
        refine E_Comp2F (by rfl) (by rfl) (by decide +kernel) ?_
        walk_at "go"
        refine R_rng1 (n := 2 + v2) rfl (by walk_at "om") ?_
        refine ⟨_, [("ends", .list (dgs es))], iters_rng, ⟨rfl, by decide +kernel, rfl, by rfl⟩, by walk_at "sub", fun u bs O => O = [o', .lst bs] ∧ bs = List.replicate (turnsM es u) (.int 1), ⟨rfl, rfl⟩, ?_, ?_⟩
        · intro L u y O2 bs
          refine GK3 fun KG hG => ?_
          rintro hy hO ⟨rfl, rfl⟩
          have hu : u < 2 + v2 := by have := (List.getElem?_eq_some_iff.mp hy).1; simpa using this
          rw [List.getElem?_map, List.getElem?_range hu] at hy
          simp only [Option.map_some, Option.some.injEq] at hy
          subst hy
          rw [show (0 : Int) + (u : Int) * 1 = (u : Nat) by walk_at "om"]
          have htu := turnsM_le es u
          have huu : u * u ≤ 9 := Nat.mul_le_mul (show u ≤ 3 by lia         ) (show u ≤ 3 by lia         )
          refine G_Name (.inl (by rfl)) (hG _ _ (EK fun K hK => ?_))
          walk_at "go"
          refine R_rng1 (n := u) rfl (by lia         ) ?_
          walk_at "s"
          refine ⟨_, iters_rng, fun done l O => Sub l [("at", .int u), ("ends", .list (dgs es))] ∧ O = [o', .lst (List.replicate (turnsM es u + tooM es u done.length) (.int 1))], ⟨by walk_at "sub", rfl⟩, ?_, ?_⟩
          · rintro done y rest l5 O5 e ⟨hs5, rfl⟩
            have hy := take_len e
            have hd : done.length < u := by have := (List.getElem?_eq_some_iff.mp hy).1; simpa using this
            rw [List.getElem?_map, List.getElem?_range hd] at hy
            simp only [Option.map_some, Option.some.injEq] at hy
            subst hy
            rw [show (0 : Int) + (done.length : Int) * 1 = (done.length : Nat) by walk_at "om"]
            have hto : es[done.length]? = some es[done.length] := List.getElem?_eq_getElem (by lia         )
            have hat : es[u]? = some es[u] := List.getElem?_eq_getElem (by walk_at "om")
            have htoo : tooM es u (done.length + 1) = tooM es u done.length + if es[u] < es[done.length] then 1 else 0 := by rw [tooM, hto, hat]; rfl
            have hle := tooM_le es u done.length
            have hlen : (done ++ [AV.int (done.length : Nat)]).length = done.length + 1 := by simp
            generalize es[done.length] = eto at *
            generalize es[u] = eat at *
            refine WG_sub hs5 ?_
            refine G_Name (.inl (by rfl)) ?_
            walk_at "go"
            refine R_idx_dgs (k := done.length) rfl rfl hto (by lia         ) ?_
            walk_at "go"
            refine R_idx_dgs (k := u) rfl rfl hat (by lia         ) ?_
            walk_at "go"
            refine ⟨fun h => ?_, fun h => ?_⟩
            · have h1 : eat < eto := by first | exact om_dlt h | exact om_dle h | exact om_dp h | (have := of_decide_eq_true h; walk_at "om")
              walk_at "go"
              refine ⟨_, rfl, by rw [List.length_replicate]; lia         , by walk_at "sub", ?_⟩
              rw [hlen, htoo, if_pos h1, ← Nat.add_assoc, List.replicate_succ']; rfl
            · have h1 : ¬ eat < eto := by first | exact om_dnlt h | exact om_dnle h | exact om_dnp h | (have := of_decide_eq_false h; walk_at "om")
              refine ⟨by walk_at "sub", ?_⟩
              rw [hlen, htoo, if_neg h1, Nat.add_zero]
          · rintro l5 O5 ⟨hs5, rfl⟩
            rw [List.length_map, List.length_range]
            exact ⟨fun e he => hs5 e (List.mem_cons_of_mem _ he), _, rfl, rfl, rfl⟩
        · rintro O2 bs hO ⟨rfl, rfl⟩
          rw [List.length_map, List.length_range]
          have htl := turnsM_le es (2 + v2)
          have hvv : (2 + v2) * (2 + v2) ≤ 9 := Nat.mul_le_mul (show 2 + v2 ≤ 3 by walk_at "om") (show 2 + v2 ≤ 3 by walk_at "om")
          generalize turnsM es (2 + v2) = tn at *
          refine ⟨[o'], rfl, rfl, hno, fun b hb => by rw [List.eq_of_mem_replicate hb]; exact .int _, ?_⟩
          refine R_len rfl (by rw [List.length_replicate]; walk_at "om") ?_
          rw [List.length_replicate]
          walk_at "go"
          refine R_mod (by decide) ?_
          rw [fmod_two]
          walk_at "s"
          walk_at "s"
          have htb : (((tn % 2 : Nat) : Int) == 1) = decide (tn % 2 = 1) := by rw [Bool.eq_iff_iff, beq_iff_eq, decide_eq_true_eq]; lia
          rw [htb]
          walk_at "s"
          walk_at "s"
          walk_at "s"
          walk_at "s"
          refine T_NeSame ?_
          walk_at "go"
          refine E_fn (i := 37) (by decide +kernel) (by rfl) (by rfl) ?_
          walk_at "go"
          refine E_fn (i := 43) (by decide +kernel) (by rfl) (by rfl) ?_
          walk_at "go"
          refine R_cal (c_det d (4 + v1) (by walk_at "om") (by walk_at "om") hU hN (rowsM (t + 1) sp es) (by rw [rowsM, List.length_map]; lia         ) (by rw [rowsM, List.length_map]; lia         ) (fun r hr => by obtain ⟨s, _, rfl⟩ := List.mem_map.mp hr; rw [List.length_map]; lia         ) z hz) (nall_cons (.list (mat_nown _ _)) (by walk_at "nown")) ?_
          rintro r rfl
          walk_at "go"
          have hfin : ∀ (b : Bool), z = (if b = true then -(due : Int) else due) → ∃ bb xs, sg (4 + v1) z = .tup [.bool bb, .list (dgs xs)] ∧ AV.tup [.bool (b && decide (0 < due)), num (4 + v1) due] = .tup [.bool bb, .list (dgs xs)] := fun b hb =>
            ⟨_, _, rfl, by rw [sgv_eq, ← hb]; rfl⟩
          have hd64 : due < 2 ^ 64 := by lia
          refine ⟨fun h => ?_, fun h => ?_⟩
          · have h1 := of_decide_eq_true h
            rw [if_pos h1] at q3
            walk_at "go"
            refine R_cal (c_limbs (d + 8) (w := 4 + v1) (n := due) (by walk_at "om") (by walk_at "om") (Nat.le_trans (len_of (by walk_at "om") hd64) (by decide))) (by walk_at "nown") ?_
            rintro r rfl
            walk_at "go"
            obtain ⟨bb, ys, e1, e2⟩ := hfin true (by rw [if_pos rfl]; exact q3)
            refine ⟨bb, ys, e1, ?_, ?_⟩
            · rw [← e2, Bool.true_and]
              rw [show decide ((0 : Int) < (due : Int)) = decide (0 < due) by rw [decide_eq_decide]; lia         ]
            · refine brF rfl ?_
              walk_at "go"
              exact ⟨o', k', by walk_at "sub", rfl, ho', by lia         ⟩
          · have h1 := of_decide_eq_false h
            rw [if_neg h1] at q3
            rw [h]
            walk_at "go"
            refine R_cal (c_limbs (d + 8) (w := 4 + v1) (n := due) (by walk_at "om") (by walk_at "om") (Nat.le_trans (len_of (by walk_at "om") hd64) (by decide))) (by walk_at "nown") ?_
            rintro r rfl
            walk_at "go"
            obtain ⟨bb, ys, e1, e2⟩ := hfin false (by rw [if_neg (by decide)]; exact q3)
            refine ⟨bb, ys, e1, ?_, ?_⟩
            · rw [← e2, Bool.false_and]
            · refine brF rfl ?_
              walk_at "go"
              exact ⟨o', k', by walk_at "sub", rfl, ho', by lia         ⟩
  · rintro l O ⟨o, kk, hs, rfl, ho, hkk⟩
    walk_at "go"
    exact ⟨_, _, .inl rfl, .same (.bool _), rfl⟩
open PySem.W
-- M48
/-- a constant of the module that is a pair of False and a list of ints: the test and what it says -/
noncomputable def intsIn : List Value → Option (List Int)
  | [] => some []
  | .int i _ :: vs => (intsIn vs).map (i :: ·)
  | _ => none
noncomputable def refOf : Value → Option Addr
  | .ref a => some a
  | _ => none
noncomputable def seqD : Data → Option (Array Value)
  | .seq items _ => some items
  | _ => none
theorem refOf_eq {v : Value} {a : Addr} (h : refOf v = some a) : v = .ref a := by
  cases v <;> first | (cases h; rfl) | cases h
theorem seqD_eq {d : Data} {xs : Array Value} (h : seqD d = some xs) : ∃ n, d = .seq xs n := by
  cases d <;> first | (cases h; exact ⟨_, rfl⟩) | cases h
theorem any_of {α : Type} {o : Option α} {p : α → Bool} (h : o.any p = true) : ∃ a, o = some a ∧ p a = true := by
  cases o with
  | none => cases h
  | some a => exact ⟨a, rfl, h⟩
noncomputable def pairAt (h : Heap) (x : Str) (ks : List Int) : Bool := (h.nsMap mainGlobals x).any fun v => (refOf v).any fun t => (h.get? t).any fun o => o.cls == .type "tuple" && (seqD o.data).any fun items =>
  (items[1]?.bind refOf).any fun l => items.toList == [.bool false, .ref l] && (h.get? l).any fun o2 => o2.cls == .type "list" && (seqD o2.data).any fun its => intsIn its.toList == some ks
noncomputable def PairIs (h : Heap) (x : Str) (ks : List Int) : Prop := ∃ m t l vs, h.Ns mainGlobals m ∧ m x = some (.ref t) ∧ IsTup h t #[.bool false, .ref l] ∧ h.IsList l (List.toArray vs) ∧ IntsAre vs ks
theorem intsIn_are : ∀ {vs : List Value} {ks : List Int}, intsIn vs = some ks → IntsAre vs ks
  | [], ks, h => by cases h; exact .nil
  | v :: vs, ks, h => by
    cases v with
    | int i t =>
      obtain ⟨r, hr, rfl⟩ := Option.map_eq_some_iff.mp h
      exact .cons i t (intsIn_are hr)
    | _ => cases h
theorem pair_of {h : Heap} {x : Str} {ks : List Int} (hn : h.isNs mainGlobals = true) (e : pairAt h x ks = true) : PairIs h x ks := by
  obtain ⟨v, ht, e1⟩ := any_of e
  obtain ⟨t, ht2, e2⟩ := any_of e1
  obtain ⟨o, ho, e3⟩ := any_of e2
  obtain ⟨hc, e4⟩ := Bool.and_eq_true_iff.mp e3
  obtain ⟨items, hd, e5⟩ := any_of e4
  obtain ⟨n, hd⟩ := seqD_eq hd
  obtain ⟨l, _, e6⟩ := any_of e5
  obtain ⟨hi, e7⟩ := Bool.and_eq_true_iff.mp e6
  obtain ⟨o2, ho2, e8⟩ := any_of e7
  obtain ⟨hc2, e9⟩ := Bool.and_eq_true_iff.mp e8
  obtain ⟨its, hd2, e10⟩ := any_of e9
  obtain ⟨n2, hd2⟩ := seqD_eq hd2
  have hi' : items = #[.bool false, .ref l] := by rw [← Array.toArray_toList (xs := items), eq_of_beq hi]
  exact ⟨_, t, l, its.toList, .of_isNs hn, ht.trans (congrArg some (refOf_eq ht2)), ⟨o, ho, eq_of_beq hc, n, hi' ▸ hd⟩, ⟨o2, ho2, eq_of_beq hc2, n2, by rw [hd2]⟩, intsIn_are (eq_of_beq e10)⟩
theorem PairIs.keeps {h h' : Heap} {x : Str} {ks : List Int} (H : PairIs h x ks) (hk : ∀ b o, h.get? b = some o → h'.get? b = some o) : PairIs h' x ks := by
  obtain ⟨m, t, l, vs, h1, h2, ⟨o, ho, r⟩, ⟨o2, ho2, r2⟩, h5⟩ := H
  exact ⟨m, t, l, vs, h1.keeps hk, h2, ⟨o, hk _ _ ho, r⟩, ⟨o2, hk _ _ ho2, r2⟩, h5⟩
theorem const_of {C : Cx} {x : Str} {ks : List Nat} (H : PairIs C.s.heap x (toI ks)) : ConstIs C x (.tup [.bool false, .list (dgs ks)]) := by
  obtain ⟨m, t, l, vs, h1, h2, h3, h4, h5⟩ := H
  obtain rfl := Ns_uniq h1 C.g
  refine ⟨_, h2, ?_⟩
  have hs : ∀ {a : Addr} {o : Obj}, C.s.heap.get? a = some o → ¬ (C.s.heap.get? a = none) := fun e q => by rw [q] at e; cases e
  have hl : Is C (fun a => C.s.heap.get? a = none) [] C.s.heap (.ref l) (.list (dgs ks)) := by
    obtain ⟨o, ho, r⟩ := h4
    have h6 := are_ints (C := C) (F := fun a => C.s.heap.get? a = none) (β := []) (h := C.s.heap) h5
    rw [← dgs_toI] at h6
    exact .list (hs ho) ⟨o, ho, r⟩ h6.1 h6.2
  obtain ⟨o, ho, r⟩ := h3
  refine .tup (vs := [.bool false, .ref l]) (hs ho) ⟨o, ho, r⟩ rfl fun i v x e e' => ?_
  match i with
  | 0 => simp at e e'; subst e; subst e'; exact .bool _
  | 1 => simp at e e'; subst e; subst e'; exact hl
  | i + 2 => simp at e

/-- the head's own look at the two constants -/
noncomputable def lookTwo (s : Shared) : Bool := s.heap.isNs mainGlobals && pairAt s.heap "UNIT" [1] && pairAt s.heap "NOUGHT" []
noncomputable def hookTwo : Hook := ⟨Bool, lookTwo, fun _ => true, fun _ h => PairIs h "UNIT" [1] ∧ PairIs h "NOUGHT" [],
  fun w s e => by
    have e : lookTwo s = true := e
    unfold lookTwo at e
    rw [Bool.and_eq_true, Bool.and_eq_true] at e
    exact ⟨pair_of e.1.1 e.1.2, pair_of e.1.1 e.2⟩,
  fun w h h' x hk => ⟨x.1.keeps hk, x.2.keeps hk⟩⟩

/-- what is to be looked at in the view -/
noncomputable def fnsOk (q : Program) : Prop := ∀ i ∈ usedFns, ∃ pos, (recsOf q).find? (fun e => e.name == nameAt i) = some ⟨nameAt i, paramsAt i, bodyAt i, scopeAt i, pos⟩
noncomputable def fnsL (q : Program) : List Nat → Prop
  | [] => True
  | i :: is => (∃ pos, (recsOf q).find? (fun e => e.name == nameAt i) = some ⟨nameAt i, paramsAt i, bodyAt i, scopeAt i, pos⟩) ∧ fnsL q is
theorem fnsL_mem {q : Program} : ∀ {is : List Nat}, fnsL q is → ∀ i ∈ is, ∃ pos, (recsOf q).find? (fun e => e.name == nameAt i) = some ⟨nameAt i, paramsAt i, bodyAt i, scopeAt i, pos⟩
  | [], _, i, h => by simp at h
  | j :: is, H, i, h => by
    rcases List.mem_cons.mp h with rfl | h
    · exact H.1
    · exact fnsL_mem H.2 i h
theorem fnsOk_of {q : Program} (h : fnsL q usedFns) : fnsOk q := fnsL_mem h
noncomputable def freeOk (q : Program) (loose : List Str) : Bool := bnames.all fun x => !startupNames.contains x && !(looseW q loose).contains x && !((recsOf q).map (·.name)).contains x && !((litsOf q).map (·.1)).contains x && !((clssOf q (looseW q loose)).map (·.name)).contains x

noncomputable def cxOf {q : Program} {loose : List Str} {R : WRecords} {XP : (Str → Option Value) → Heap → Prop} {w : World} {s₀ s₁ : Shared} {mg mb : Str → Option Value} (G : Ground q loose R XP w s₀ mg mb s₁.heap) (hfn : fnsOk q) (hfree : freeOk q loose = true) (himp : importsNone q = true) : Cx where
  w := w
  s := s₁
  mg := mg
  mb := mb
  g := G.T.g
  b := G.T.b
  nolimit := G.T.nolimit
  mods := by obtain ⟨mm, ⟨o, _, _, ho, _⟩, _⟩ := (G.T.seer himp).mods; exact ⟨o, ho⟩
  builtins := G.T.builtins
  free := fun x hx => by
    have := List.all_eq_true.mp hfree x hx
    simp only [Bool.and_eq_true, Bool.not_eq_true', List.contains_eq_mem, decide_eq_false_iff_not] at this
    exact G.T.free x this.1.1.1.1 this.1.1.1.2 this.1.1.2 this.1.2 this.2
  fn := fun i hi => by
    obtain ⟨pos, hp⟩ := hfn i hi
    obtain ⟨a, o, pm, code, doc, h1, h2, h3, h4⟩ := G.T.fn _ (List.mem_of_find?_eq_some hp)
    exact ⟨a, o, pm, code, doc, h1, h2, h3, h4⟩

theorem ints_of_reads {R : WRecords} {cl : Str → Option Addr} {h : Heap} {zs : List Int} : ∀ {vs : List Value} {as : List Addr}, ReadsAllW R cl h vs (zs.map .int) as → IntsAre vs zs := by
  induction zs with
  | nil => intro vs as H; cases H; exact .nil
  | cons z zs ih =>
    intro vs as H
    cases H with
    | cons h1 h2 => cases h1 with | int i t => exact .cons _ _ (ih h2)

theorem law_walk {q : Program} {loose : List Str} {R : WRecords} {XP : (Str → Option Value) → Heap → Prop} (hlaw : LawOk) (hfn : fnsOk q) (hfree : freeOk q loose = true) (himp : importsNone q = true) {w : World} {s₀ s₁ : Shared} {mg mb : Str → Option Value}
    (G : Ground q loose R XP w s₀ mg mb s₁.heap) (Y : hookTwo.says w s₁.heap) {a la : Addr} (hmg : mg "law" = some (.ref a)) {zs : List Int} (hz : zs.length ≤ 63) {vs : List Value} (hl : s₁.heap.IsList la vs.toArray) (hv : IntsAre vs zs) :
    wpAny (model P0 w) callerA (call (.ref a) [.ref la]) (fun v s' => v = .bool true ∧ (∀ b o, s₁.heap.get? b = some o → s'.heap.get? b = some o) ∧ s'.os = s₁.os ∧ s'.gens = s₁.gens) (fun _ _ => False) s₁ := by
  obtain ⟨yU, yN⟩ := Y
  have hc := c_law (C := cxOf G hfn hfree himp) 0 (const_of (ks := [1]) yU) (const_of (ks := []) yN) hlaw zs hz
  have hr : Room 10 callerA := ⟨rfl, by decide +kernel, by decide +kernel⟩
  have hi := are_ints (C := cxOf G hfn hfree himp) (F := fun _ => False) (β := []) (h := s₁.heap) hv
  refine wpAny_mono (hc (fun _ => False) s₁.heap [.ref la] a hmg (fun _ _ e => e) (fun _ hx => hx.elim) ⟨rfl, fun i v x e e' => ?_⟩ callerA s₁.toks hr) (fun v s' ⟨h', tk', e, av, h1, h2, h3⟩ => ?_) fun _ _ e => e
  · match i with
    | 0 => simp at e e'; subst e; subst e'; exact .list id hl hi.1 hi.2
    | i + 1 => simp at e
  · subst e; subst h3
    exact ⟨is_bool h2, h1, rfl, rfl⟩
end Walker
abbrev DL := List (List Int × Int)
noncomputable def vl (es : DL) (k : List Int) : Int := (atD es k).getD 0
theorem atD_cons (e : List Int × Int) (es : DL) (k : List Int) : atD (e :: es) k = if e.1 = k then some e.2 else atD es k := by
  unfold atD
  by_cases h : e.1 = k
  · rw [List.find?_cons_of_pos (by simpa using h), if_pos h]; rfl
  · rw [List.find?_cons_of_neg (by simpa using h), if_neg h]
theorem atD_none_iff {k : List Int} : ∀ {es : DL}, atD es k = none ↔ k ∉ es.map (·.1)
  | [] => by simp [atD]
  | e :: es => by
    rw [atD_cons, List.map_cons, List.mem_cons]
    by_cases h : e.1 = k
    · simp [h]
    · rw [if_neg h, atD_none_iff]; simp [Ne.symm h]
theorem atD_map (k : List Int) (v : Int) (k' : List Int) : ∀ es : DL, atD (es.map fun e => if e.1 = k then (e.1, v) else e) k' = if k = k' then (atD es k').map (fun _ => v) else atD es k'
  | [] => by simp [atD]
  | e :: es => by
    rw [List.map_cons, atD_cons, atD_map k v k' es, atD_cons]
    by_cases h : e.1 = k
    · rw [if_pos h]
      by_cases h2 : e.1 = k'
      · rw [if_pos h2, if_pos h2, if_pos (h ▸ h2)]; rfl
      · rw [if_neg h2, if_neg h2]
    · rw [if_neg h]
      by_cases h2 : e.1 = k'
      · rw [if_pos h2, if_pos h2, if_neg fun q => h (h2.trans q.symm)]
      · rw [if_neg h2, if_neg h2]
theorem atD_snoc (k : List Int) (v : Int) (k' : List Int) : ∀ es : DL, atD es k = none → atD (es ++ [(k, v)]) k' = if k = k' then some v else atD es k'
  | [], _ => by rw [List.nil_append, atD_cons]
  | e :: es, h => by
    rw [atD_cons] at h
    by_cases h1 : e.1 = k
    · rw [if_pos h1] at h; cases h
    · rw [if_neg h1] at h
      rw [List.cons_append, atD_cons, atD_snoc k v k' es h, atD_cons]
      by_cases h2 : e.1 = k'
      · rw [if_pos h2, if_pos h2, if_neg fun q => h1 (h2.trans q.symm)]
      · rw [if_neg h2, if_neg h2]
theorem vl_put (es : DL) (k : List Int) (v : Int) (k' : List Int) : vl (putD es k v) k' = if k = k' then v else vl es k' := by
  unfold vl putD
  cases h : atD es k with
  | none => rw [if_neg (by simp), atD_snoc k v k' es h]; by_cases q : k = k' <;> simp [q]
  | some x =>
    rw [if_pos (show (some x).isSome = true from rfl), atD_map]
    by_cases q : k = k'
    · subst q; rw [if_pos rfl, if_pos rfl, h]; rfl
    · rw [if_neg q, if_neg q]
/-- the keys of a dict of states: each of so many places, apart, none twice; what it holds is not below nought -/
structure InvD (many : Nat) (es : DL) : Prop where
  len : ∀ e ∈ es, e.1.length = many
  apart : ∀ e ∈ es, apartM e.1 = true
  pos : ∀ e ∈ es, 0 ≤ e.2
  nd : (es.map (·.1)).Nodup
theorem InvD.vpos {many : Nat} {es : DL} (h : InvD many es) (k : List Int) : 0 ≤ vl es k := by
  unfold vl atD
  cases q : es.find? fun e => decide (e.1 = k) with
  | none => exact Int.le_refl 0
  | some e => exact h.pos e (List.mem_of_find?_eq_some q)
theorem InvD.off {many : Nat} {es : DL} (h : InvD many es) {k : List Int} (hk : apartM k ≠ true) : atD es k = none :=
  atD_none_iff.mpr fun q => by
    obtain ⟨e, he, rfl⟩ := List.mem_map.mp q
    exact hk (h.apart e he)
theorem InvD.put {many : Nat} {es : DL} (h : InvD many es) {k : List Int} {v : Int} (hl : k.length = many) (ha : apartM k = true) (hv : 0 ≤ v) : InvD many (putD es k v) := by
  unfold putD
  split
  · have hm : ∀ e ∈ es.map (fun e => if e.1 = k then (e.1, v) else e), ∃ e' ∈ es, e.1 = e'.1 ∧ (e.2 = e'.2 ∨ e.2 = v) := fun e he => by
      obtain ⟨x, hx, rfl⟩ := List.mem_map.mp he
      refine ⟨x, hx, ?_⟩
      split
      · exact ⟨rfl, .inr rfl⟩
      · exact ⟨rfl, .inl rfl⟩
    refine ⟨fun e he => ?_, fun e he => ?_, fun e he => ?_, ?_⟩
    · obtain ⟨x, hx, h1, _⟩ := hm e he; rw [h1]; exact h.len x hx
    · obtain ⟨x, hx, h1, _⟩ := hm e he; rw [h1]; exact h.apart x hx
    · obtain ⟨x, hx, _, h2⟩ := hm e he
      rcases h2 with h2 | h2 <;> rw [h2]
      · exact h.pos x hx
      · exact hv
    · rw [List.map_map, List.map_congr_left (g := (·.1)) fun e _ => ?_]
      · exact h.nd
      · show (if e.1 = k then (e.1, v) else e).1 = e.1
        split <;> rfl
  · rename_i hn
    have hn' : atD es k = none := by cases q : atD es k <;> simp_all
    have or {P : List Int × Int → Prop} (h1 : ∀ e ∈ es, P e) (h2 : P (k, v)) : ∀ e ∈ es ++ [(k, v)], P e := fun e he => by
      rcases List.mem_append.mp he with he | he
      · exact h1 e he
      · rw [List.mem_singleton.mp he]; exact h2
    refine ⟨or h.len hl, or h.apart ha, or h.pos hv, ?_⟩
    rw [List.map_append, List.nodup_append]
    refine ⟨h.nd, by simp, fun a ha b hb q => ?_⟩
    simp at hb
    exact atD_none_iff.mp hn' (by rw [← hb, ← q]; exact ha)
theorem InvD.form {many : Nat} {es : DL} (h : InvD many es) {spots : List Int} {v : Int} (hv : 0 ≤ v) (f : Nat) : InvD many (formM many spots v es f) := by
  unfold formM
  split
  · rename_i ha
    exact h.put (thereM_len ..) ha (Int.add_nonneg (h.vpos _) hv)
  · exact h
theorem InvD.forms {many : Nat} {spots : List Int} {v : Int} (hv : 0 ≤ v) : ∀ (fs : List Nat) {es : DL}, InvD many es → InvD many (fs.foldl (formM many spots v) es)
  | [], _, h => h
  | f :: fs, _, h => InvD.forms hv fs (h.form hv f)
theorem InvD.spots {many : Nat} : ∀ (xs : DL) {es : DL}, (∀ e ∈ xs, 0 ≤ e.2) → InvD many es → InvD many (xs.foldl (spotM many) es)
  | [], _, _, h => h
  | x :: xs, _, hx, h => InvD.spots xs (fun e he => hx e (List.mem_cons_of_mem _ he)) (InvD.forms (hx x (List.mem_cons_self ..)) _ h)
theorem inv_es {sp : List Nat} (ha : apartM (toI sp) = true) : ∀ m, InvD sp.length (esM sp m) ∧ (esM sp m).length ≤ (2 ^ sp.length) ^ m
  | 0 => ⟨⟨by simp [esM, toI], by simpa [esM] using ha, by simp [esM], by simp [esM]⟩, by simp [esM]⟩
  | m + 1 => by
    obtain ⟨h1, h2⟩ := inv_es ha m
    refine ⟨InvD.spots _ h1.pos ⟨by simp, by simp, by simp, by simp⟩, ?_⟩
    have := spotM_len sp.length (esM sp m) []
    rw [Nat.pow_succ]
    exact Nat.le_trans this (by simpa using Nat.mul_le_mul_right _ h2)
/-- Pascal's numbers at any place -/
noncomputable def cI : Nat → Int → Int
  | 0, d => if d = 0 then 1 else 0
  | m + 1, d => cI m d + cI m (d - 1)
theorem cI_neg : ∀ (m : Nat) {d : Int}, d < 0 → cI m d = 0
  | 0, d, h => by unfold cI; rw [if_neg (Int.ne_of_lt h)]
  | m + 1, d, h => by rw [cI, cI_neg m h, cI_neg m (by lia)]; rfl
theorem choose_cI : ∀ (m k : Nat), (chooseM m k : Int) = cI m k
  | 0, 0 => rfl
  | 0, k + 1 => by rw [chooseM, cI, if_neg (by lia)]; rfl
  | m + 1, 0 => by
    have h := choose_cI m 0
    rw [chooseM] at h ⊢
    rw [cI, cI_neg m (d := ((0 : Nat) : Int) - 1) (by decide), ← h]; rfl
  | m + 1, k + 1 => by
    rw [chooseM, Int.natCast_add, choose_cI m k, choose_cI m (k + 1), cI, Int.add_comm]
    congr 2; simp
theorem alone_cI (m s e : Nat) : aloneM m s e = cI m ((e : Int) - s) := by
  unfold aloneM
  split
  · rename_i h; rw [choose_cI, Int.ofNat_sub h]
  · rw [cI_neg m (by lia)]
noncomputable def det9 (a b c d e f g h i : Int) : Int := a * (e * i - f * h) - b * (d * i - f * g) + c * (d * h - e * g)
section
variable {a b c d e f g h i a' b' c' d' e' f' g' h' i' : Int}
theorem det_add1 : det9 (a + a') b c (d + d') e f (g + g') h i = det9 a b c d e f g h i + det9 a' b c d' e f g' h i := by unfold det9; grind
theorem det_add2 : det9 a (b + b') c d (e + e') f g (h + h') i = det9 a b c d e f g h i + det9 a b' c d e' f g h' i := by unfold det9; grind
theorem det_add3 : det9 a b (c + c') d e (f + f') g h (i + i') = det9 a b c d e f g h i + det9 a b c' d e f' g h i' := by unfold det9; grind
theorem det_12 : det9 b a c e d f h g i = -det9 a b c d e f g h i := by unfold det9; grind
theorem det_23 : det9 a c b d f e g i h = -det9 a b c d e f g h i := by unfold det9; grind
theorem det_s1 : det9 a a c d d f g g i = 0 := by unfold det9; grind
theorem det_s2 : det9 a b b d e e g h h = 0 := by unfold det9; grind
end
/-- in how many ways with a minus -/
noncomputable def dt (m : Nat) (s t u x y z : Int) : Int := det9 (cI m (x - s)) (cI m (y - s)) (cI m (z - s)) (cI m (x - t)) (cI m (y - t)) (cI m (z - t)) (cI m (x - u)) (cI m (y - u)) (cI m (z - u))
theorem dt_succ (m : Nat) (s t u x y z : Int) : dt (m + 1) s t u x y z = dt m s t u x y z + dt m s t u (x - 1) y z + (dt m s t u x (y - 1) z + dt m s t u (x - 1) (y - 1) z) +
    (dt m s t u x y (z - 1) + dt m s t u (x - 1) y (z - 1) + (dt m s t u x (y - 1) (z - 1) + dt m s t u (x - 1) (y - 1) (z - 1))) := by
  have q : ∀ p q : Int, cI (m + 1) (p - q) = cI m (p - q) + cI m (p - 1 - q) := fun p q => by rw [cI]; congr 2; lia
  unfold dt
  simp only [q, det_add1, det_add2, det_add3]
theorem dt_s1 (m : Nat) (s t u x z : Int) : dt m s t u x x z = 0 := det_s1
theorem dt_s2 (m : Nat) (s t u x y : Int) : dt m s t u x y y = 0 := det_s2
theorem dt_12 (m : Nat) (s t u x y z : Int) : dt m s t u y x z = -dt m s t u x y z := det_12
theorem dt_23 (m : Nat) (s t u x y z : Int) : dt m s t u x z y = -dt m s t u x y z := det_23
noncomputable def ind (a b : Int) : Int := if a = b then 1 else 0
theorem ind_no {a b c d : Int} (h : ¬ (a = b ∧ c = d)) : ind a b * ind c d = 0 := by
  unfold ind
  by_cases h1 : a = b
  · rw [if_neg fun q => h ⟨h1, q⟩]; simp
  · rw [if_neg h1]; simp
theorem cI_0 (x s : Int) : cI 0 (x - s) = ind x s := by unfold cI ind; by_cases h : x = s <;> simp [h]; lia
theorem dt_0 {s t u x y z : Int} (h1 : s < t) (h2 : t < u) (h3 : x < y) (h4 : y < z) : dt 0 s t u x y z = ind x s * (ind y t * ind z u) := by
  unfold dt det9
  simp only [cI_0]
  have e1 : ind z t * ind y u = 0 := ind_no (by lia)
  have e2 : ind y s * ind x t = 0 := ind_no (by lia)
  have e3 : ind y s * ind x u = 0 := ind_no (by lia)
  have e4 : ind z s * ind x t = 0 := ind_no (by lia)
  have e5 : ind z s * ind y t = 0 := ind_no (by lia)
  grind
theorem vl_form (many : Nat) (spots : List Int) (v : Int) (es : DL) (f : Nat) (k : List Int) : vl (formM many spots v es f) k = vl es k + if apartM k = true ∧ thereM spots f many = k then v else 0 := by
  unfold formM
  split
  · rename_i h
    rw [vl_put]
    by_cases q : thereM spots f many = k
    · rw [if_pos q, if_pos ⟨q ▸ h, q⟩, q]; rfl
    · rw [if_neg q, if_neg fun p => q p.2, Int.add_zero]
  · rename_i h
    rw [if_neg fun p : apartM k = true ∧ thereM spots f many = k => h (p.2.symm ▸ p.1), Int.add_zero]
/-- what a dict holds at places three steps back or fewer -/
noncomputable def back (es : DL) (x y z : Int) : Int := vl es [x, y, z] + vl es [x - 1, y, z] + (vl es [x, y - 1, z] + vl es [x - 1, y - 1, z]) +
    (vl es [x, y, z - 1] + vl es [x - 1, y, z - 1] + (vl es [x, y - 1, z - 1] + vl es [x - 1, y - 1, z - 1]))
theorem vl_cons {e : List Int × Int} {es : DL} (h : e.1 ∉ es.map (·.1)) (k : List Int) : vl (e :: es) k = (if e.1 = k then e.2 else 0) + vl es k := by
  unfold vl
  rw [atD_cons]
  by_cases q : e.1 = k
  · rw [if_pos q, if_pos q, atD_none_iff.mpr (q ▸ h)]; simp
  · rw [if_neg q, if_neg q]; simp
theorem there_iff {p q r x y z b0 b1 b2 : Int} : ([p + b0, q + b1, r + b2] = [x, y, z]) ↔ ([p, q, r] = [x - b0, y - b1, z - b2]) := by
  simp only [List.cons.injEq, and_true]
  constructor <;> rintro ⟨h1, h2, h3⟩ <;> refine ⟨?_, ?_, ?_⟩ <;> lia
theorem vl_spot {p q r v : Int} {es : DL} (x y z : Int) (ha : apartM [x, y, z] = true) : vl (spotM 3 es ([p, q, r], v)) [x, y, z] = vl es [x, y, z] +
    ((if [p, q, r] = [x, y, z] then v else 0) + (if [p, q, r] = [x - 1, y, z] then v else 0) + ((if [p, q, r] = [x, y - 1, z] then v else 0) + (if [p, q, r] = [x - 1, y - 1, z] then v else 0)) +
    ((if [p, q, r] = [x, y, z - 1] then v else 0) + (if [p, q, r] = [x - 1, y, z - 1] then v else 0) + ((if [p, q, r] = [x, y - 1, z - 1] then v else 0) + (if [p, q, r] = [x - 1, y - 1, z - 1] then v else 0)))) := by
  have e : ∀ (a b c : Int) (es : DL) (f : Nat), thereM [p, q, r] f 3 = [p + a, q + b, r + c] → vl (formM 3 [p, q, r] v es f) [x, y, z] = vl es [x, y, z] + if [p, q, r] = [x - a, y - b, z - c] then v else 0 := fun a b c es f h => by
    rw [vl_form, h]
    by_cases k : [p, q, r] = [x - a, y - b, z - c]
    · rw [if_pos k, if_pos ⟨ha, there_iff.mpr k⟩]
    · rw [if_neg k, if_neg fun j => k (there_iff.mp j.2)]
  show vl (formM 3 [p, q, r] v (formM 3 [p, q, r] v (formM 3 [p, q, r] v (formM 3 [p, q, r] v (formM 3 [p, q, r] v (formM 3 [p, q, r] v (formM 3 [p, q, r] v (formM 3 [p, q, r] v es 0) 1) 2) 3) 4) 5) 6) 7) [x, y, z] = _
  rw [e 1 1 1 _ 7 rfl, e 0 1 1 _ 6 rfl, e 1 0 1 _ 5 rfl, e 0 0 1 _ 4 rfl, e 1 1 0 _ 3 rfl, e 0 1 0 _ 2 rfl, e 1 0 0 _ 1 rfl, e 0 0 0 _ 0 rfl]
  simp only [Int.sub_zero, Int.add_assoc]
theorem vl_later (x y z : Int) (ha : apartM [x, y, z] = true) : ∀ (es : DL) {found : DL}, (∀ e ∈ es, e.1.length = 3) → (es.map (·.1)).Nodup → vl (es.foldl (spotM 3) found) [x, y, z] = vl found [x, y, z] + back es x y z
  | [], found, _, _ => by simp [back, vl, atD]
  | ([p, q, r], v) :: es, found, hl, hn => by
    rw [List.map_cons, List.nodup_cons] at hn
    rw [List.foldl_cons, vl_later x y z ha es (fun e he => hl e (List.mem_cons_of_mem _ he)) hn.2, vl_spot x y z ha]
    unfold back
    simp only [vl_cons hn.1]
    grind
  | ([], v) :: es, _, hl, _ => absurd (hl _ (List.mem_cons_self ..)) (by simp)
  | ([_], v) :: es, _, hl, _ => absurd (hl _ (List.mem_cons_self ..)) (by simp)
  | ([_, _], v) :: es, _, hl, _ => absurd (hl _ (List.mem_cons_self ..)) (by simp)
  | (_ :: _ :: _ :: _ :: _, v) :: es, _, hl, _ => absurd (hl _ (List.mem_cons_self ..)) (by simp)
theorem apart3 {x y z : Int} : apartM [x, y, z] = true ↔ x ≠ y ∧ x ≠ z ∧ y ≠ z := by simp [apartM]; lia
theorem law_dt {s t u : Nat} (h1 : s < t) (h2 : t < u) : ∀ (m : Nat) {x y z : Int}, x ≤ y → y ≤ z → vl (esM [s, t, u] m) [x, y, z] = dt m s t u x y z := by
  have ha : apartM (toI [s, t, u]) = true := apart3.mpr ⟨by lia, by lia, by lia⟩
  have weak : ∀ m, (∀ {x y z : Int}, x < y → y < z → vl (esM [s, t, u] m) [x, y, z] = dt m s t u x y z) → ∀ {x y z : Int}, x ≤ y → y ≤ z → vl (esM [s, t, u] m) [x, y, z] = dt m s t u x y z := by
    intro m h x y z hxy hyz
    have off : ¬ apartM [x, y, z] = true → vl (esM [s, t, u] m) [x, y, z] = 0 := fun q => by unfold vl; rw [(inv_es ha m).1.off q]; rfl
    rcases Int.lt_or_eq_of_le hxy with a | rfl
    · rcases Int.lt_or_eq_of_le hyz with b | rfl
      · exact h a b
      · rw [off fun q => (apart3.mp q).2.2 rfl, dt_s2]
    · rw [off fun q => (apart3.mp q).1 rfl, dt_s1]
  intro m
  induction m with
  | zero =>
    refine weak 0 fun {x y z} a b => ?_
    rw [dt_0 (by lia) (by lia) a b]
    show vl [(toI [s, t, u], 1)] [x, y, z] = _
    rw [vl_cons (by simp)]
    show (if [(s : Int), t, u] = [x, y, z] then (1 : Int) else 0) + 0 = _
    unfold ind
    simp only [List.cons.injEq, and_true, @eq_comm _ (s : Int) x, @eq_comm _ (t : Int) y, @eq_comm _ (u : Int) z]
    by_cases q1 : x = s
    · by_cases q2 : y = t
      · simp [q1, q2]
      · simp [q1, q2]
    · simp [q1]
  | succ m ih =>
    refine weak _ fun {x y z} a b => ?_
    show vl (laterM (esM [s, t, u] m) 3) [x, y, z] = _
    unfold laterM
    have hi := (inv_es ha m).1
    rw [vl_later x y z (apart3.mpr ⟨by lia, by lia, by lia⟩) _ hi.len hi.nd, dt_succ]
    unfold back
    rw [ih (by lia) (by lia), ih (by lia) (by lia), ih (by lia) (by lia), ih (by lia) (by lia), ih (by lia) (by lia), ih (by lia) (by lia), ih (by lia) (by lia), ih (by lia) (by lia)]
    exact Int.zero_add _
theorem step_none {col : Nat} {s : BS} (hok : rowsOk s.rows col = true ∧ s.pl.length ≤ s.rows.length) (hp : pivAt s.rows col (s.rows.length - s.pl.length) s.pl.length = -1) : stepM col s = some s := by
  unfold stepM
  dsimp only
  rw [if_pos hok, hp]; rfl
theorem step_some {col sp : Nat} {s : BS} {r1 r2 : List (List Int)} {b : Int} (hok : rowsOk s.rows col = true ∧ s.pl.length ≤ s.rows.length) (hp : pivAt s.rows col (s.rows.length - s.pl.length) s.pl.length = (sp : Nat))
    (h1 : (if sp = s.pl.length then some s.rows else swapRows s.rows s.pl.length sp) = some r1) (h2 : clrAll s.pl.length col s.before (r1.length - (s.pl.length + 1)) (s.pl.length + 1) r1 = some r2) (h3 : ((r2[s.pl.length]?).bind (·[col]?)) = some b) :
    stepM col s = some ⟨r2, s.pl ++ [col], if sp = s.pl.length then s.odd else !s.odd, b⟩ := by
  unfold stepM
  dsimp only
  rw [if_pos hok, hp]
  show (if ((sp : Nat) : Int) < 0 then some s else ((if sp = s.pl.length then some s.rows else swapRows s.rows s.pl.length sp).bind _)) = _
  rw [if_neg (Int.not_lt.mpr (Int.natCast_nonneg _)), h1]
  show (clrAll s.pl.length col s.before (r1.length - (s.pl.length + 1)) (s.pl.length + 1) r1).bind _ = _
  rw [h2]
  show (match (r2[s.pl.length]?).bind (·[col]?) with | some b => _ | none => _) = _
  rw [h3]; rfl
theorem clr_some {rows : List (List Int)} {top col at_ : Nat} {before p o : Int} {r h : List Int} (hr : rows[at_]? = some r) (hh : rows[top]? = some h) (hp : h[col]? = some p) (ho : r[col]? = some o)
    (hc : r.length = h.length ∧ r.length ≤ 100 ∧ r.all smallI = true ∧ h.all smallI = true ∧ before ≠ 0 ∧ before.natAbs < 16) : clrStep rows top col at_ before = some (rows.set at_ (clr r h p o before)) := by
  unfold clrStep
  rw [hr, hh]
  show (match h[col]?, r[col]? with | some p, some o => _ | _, _ => none) = _
  rw [hp, ho]
  exact if_pos hc
theorem all3 {x y z : Int} (hx : smallI x = true) (hy : smallI y = true) (hz : smallI z = true) : [x, y, z].all smallI = true := by
  rw [List.all_cons, List.all_cons, List.all_cons, hx, hy, hz]; rfl
theorem rows3 {r0 r1 r2 : List Int} {col : Nat} (hc : col < 3) (h : r0.length = 3 ∧ r1.length = 3 ∧ r2.length = 3) (h0 : r0.all smallI = true) (h1 : r1.all smallI = true) (h2 : r2.all smallI = true) : rowsOk [r0, r1, r2] col = true := by
  obtain ⟨l0, l1, l2⟩ := h
  simp [rowsOk, l0, l1, l2, hc, h0, h1, h2]
/-- a small number for the rows that Bareiss writes -/
noncomputable def Sm (r : List Int) : Prop := r.all smallI = true
/-- what stands at the end -/
noncomputable def finM (n : Nat) (s : BS) : Option Int := if s.pl.length < n then some 0 else
  (s.rows[s.rows.length - 1]?.bind (·[n - 1]?)).bind fun z => if z.natAbs < 2 ^ 28 ∧ s.rows.length ≤ 100 ∧ s.pl.length ≤ 100 then some (if s.odd = true then -z else z) else none
theorem st_go {col : Nat} {s s1 : BS} {k : Nat} {R : Option Int} (h : stepM col s = some s1) (h2 : (stM k (col + 1) s1).bind (finM 3) = R) : (stM (k + 1) col s).bind (finM 3) = R := by rw [stM, h]; exact h2
theorem st_one {r0 r1 : List Int} {u v w b : Int} {odd : Bool} (hl : r0.length = 3 ∧ r1.length = 3) (h0 : r0.all smallI = true) (h1 : r1.all smallI = true) (hu : smallI u = true) (hv : smallI v = true) (hw : smallI w = true) :
    (stM 1 2 ⟨[r0, r1, [u, v, w]], [0, 1], odd, b⟩).bind (finM 3) = some (if odd = true then -w else w) := by
  have ok := rows3 (col := 2) (by decide) ⟨hl.1, hl.2, rfl⟩ h0 h1 (all3 hu hv hw)
  by_cases q : w = 0
  · subst q
    refine st_go (step_none ⟨ok, Nat.le_of_ble_eq_true rfl⟩ rfl) ?_
    cases odd <;> rfl
  · refine st_go (step_some (sp := 2) (r1 := [r0, r1, [u, v, w]]) (r2 := [r0, r1, [u, v, w]]) (b := w) ⟨ok, Nat.le_of_ble_eq_true rfl⟩ (if_pos q) rfl rfl rfl) ?_
    exact if_pos ⟨of_decide_eq_true hw, Nat.le_of_ble_eq_true rfl, Nat.le_of_ble_eq_true rfl⟩
theorem st_short {s s1 : BS} {col : Nat} (h : stepM col s = some s1) (hl : s1.pl.length < 3) : (stM 1 col s).bind (finM 3) = some 0 := by
  exact st_go h (if_pos hl)
theorem cond3 {r h : List Int} {a : Int} (hl : r.length = 3 ∧ h.length = 3) (hr : r.all smallI = true) (hh : h.all smallI = true) (ha : a ≠ 0) (ha' : a.natAbs < 16) : r.length = h.length ∧ r.length ≤ 100 ∧ r.all smallI = true ∧ h.all smallI = true ∧ a ≠ 0 ∧ a.natAbs < 16 :=
  ⟨hl.1.trans hl.2.symm, by rw [hl.1]; decide, hr, hh, ha, ha'⟩
/-- the first column is cleared: the rest -/
theorem rest3 {a e f h i D : Int} {r0 : List Int} (odd : Bool) (l0 : r0.length = 3) (s0 : r0.all smallI = true) (ha : a ≠ 0) (ha' : a.natAbs < 16) (se : smallI e = true) (sf : smallI f = true) (sh : smallI h = true) (si : smallI i = true)
    (hD : i * e - h * f = a * D) (sD : smallI D = true) (sD' : smallI (-D) = true) :
    (stM 2 1 ⟨[r0, [0, e, f], [0, h, i]], [0], odd, a⟩).bind (finM 3) = some (if odd = true then -D else D) := by
  have z0 : smallI 0 = true := by decide
  have ae := all3 z0 se sf
  have ah := all3 z0 sh si
  have ok {c : Nat} (hc : c < 3) : rowsOk [r0, [0, e, f], [0, h, i]] c = true := rows3 hc ⟨l0, rfl, rfl⟩ s0 ae ah
  have zt : ∀ z : Int, (z - z).tdiv a = 0 := fun z => by rw [Int.sub_self, Int.zero_tdiv]
  by_cases h1 : e = 0
  · subst h1
    by_cases h2 : h = 0
    · subst h2
      have hD0 : D = 0 := by
        have : a * D = 0 := by rw [← hD]; simp
        exact (Int.mul_eq_zero.mp this).resolve_left ha
      subst hD0
      refine Eq.trans (st_go (step_none ⟨ok (by decide), Nat.le_of_ble_eq_true rfl⟩ rfl) ?_) (show some (0 : Int) = some (if odd = true then -0 else 0) by cases odd <;> rfl)
      by_cases h3 : f = 0
      · subst h3
        by_cases h4 : i = 0
        · subst h4
          exact st_short (step_none ⟨ok (by decide), Nat.le_of_ble_eq_true rfl⟩ rfl) (by show (1 : Nat) < 3; decide)
        · refine st_short (step_some (sp := 2) (r1 := [r0, [0, 0, i], [0, 0, 0]]) (r2 := [r0, [0, 0, i], clr [0, 0, 0] [0, 0, i] i 0 a]) (b := i) ⟨ok (by decide), Nat.le_of_ble_eq_true rfl⟩ ?_ rfl ?_ rfl) (by show (2 : Nat) < 3; decide)
          · exact if_pos h4
          · show (clrStep [r0, [0, 0, i], [0, 0, 0]] 1 2 2 a).bind _ = _
            rw [clr_some (p := i) (o := 0) rfl rfl rfl rfl (cond3 ⟨rfl, rfl⟩ ae ah ha ha')]; rfl
      · refine st_short (step_some (sp := 1) (r1 := [r0, [0, 0, f], [0, 0, i]]) (r2 := [r0, [0, 0, f], clr [0, 0, i] [0, 0, f] f i a]) (b := f) ⟨ok (by decide), Nat.le_of_ble_eq_true rfl⟩ ?_ rfl ?_ rfl) (by show (2 : Nat) < 3; decide)
        · exact if_pos h3
        · show (clrStep [r0, [0, 0, f], [0, 0, i]] 1 2 2 a).bind _ = _
          rw [clr_some (p := f) (o := i) rfl rfl rfl rfl (cond3 ⟨rfl, rfl⟩ ah ae ha ha')]; rfl
    · have hq : (f * h - 0 * i : Int).tdiv a = -D := by
        rw [show (f * h - 0 * i : Int) = a * (-D) by grind, Int.mul_tdiv_cancel_left _ ha]
      refine st_go (step_some (sp := 2) (r1 := [r0, [0, h, i], [0, 0, f]]) (r2 := [r0, [0, h, i], [0, 0, -D]]) (b := h) ⟨ok (by decide), Nat.le_of_ble_eq_true rfl⟩ (if_pos h2) rfl ?_ rfl) ?_
      · show (clrStep [r0, [0, h, i], [0, 0, f]] 1 1 2 a).bind _ = _
        rw [clr_some (p := h) (o := 0) rfl rfl rfl rfl (cond3 ⟨rfl, rfl⟩ ae ah ha ha')]
        show some [r0, [0, h, i], [(0 * h - 0 * 0 : Int).tdiv a, (0 * h - 0 * h : Int).tdiv a, (f * h - 0 * i : Int).tdiv a]] = _
        rw [hq, zt]; simp
      · refine (st_one ⟨l0, rfl⟩ s0 ah z0 z0 sD').trans ?_
        cases odd <;> simp
  · have hq : (i * e - h * f : Int).tdiv a = D := by rw [hD, Int.mul_tdiv_cancel_left _ ha]
    refine st_go (step_some (sp := 1) (r1 := [r0, [0, e, f], [0, h, i]]) (r2 := [r0, [0, e, f], [0, 0, D]]) (b := e) ⟨ok (by decide), Nat.le_of_ble_eq_true rfl⟩ (if_pos h1) rfl ?_ rfl) (st_one ⟨l0, rfl⟩ s0 ae z0 z0 sD)
    · show (clrStep [r0, [0, e, f], [0, h, i]] 1 1 2 a).bind _ = _
      rw [clr_some (p := e) (o := h) rfl rfl rfl rfl (cond3 ⟨rfl, rfl⟩ ah ae ha ha')]
      show some [r0, [0, e, f], [(0 * e - h * 0 : Int).tdiv a, (h * e - h * e : Int).tdiv a, (i * e - h * f : Int).tdiv a]] = _
      rw [hq, zt]; simp
theorem small_of {z : Int} {n : Nat} (h : z.natAbs ≤ n) (hn : Nat.blt n (2 ^ 28) = true := by rfl) : smallI z = true := decide_eq_true (Nat.lt_of_le_of_lt h (Nat.le_of_ble_eq_true hn))
theorem na_mul {x y : Int} {m n : Nat} (hx : x.natAbs ≤ m) (hy : y.natAbs ≤ n) : (x * y).natAbs ≤ m * n := by rw [Int.natAbs_mul]; exact Nat.mul_le_mul hx hy
theorem na_sub {x y : Int} {m n : Nat} (hx : x.natAbs ≤ m) (hy : y.natAbs ≤ n) : (x - y).natAbs ≤ m + n := Nat.le_trans (Int.natAbs_sub_le x y) (Nat.add_le_add hx hy)
theorem na_add {x y : Int} {m n : Nat} (hx : x.natAbs ≤ m) (hy : y.natAbs ≤ n) : (x + y).natAbs ≤ m + n := Nat.le_trans (Int.natAbs_add_le x y) (Nat.add_le_add hx hy)
theorem m2 {w x y z : Int} (h1 : w.natAbs ≤ 6) (h2 : x.natAbs ≤ 6) (h3 : y.natAbs ≤ 6) (h4 : z.natAbs ≤ 6) : (w * x - y * z).natAbs ≤ 72 := na_sub (na_mul h1 h2) (na_mul h3 h4)
/-- a row of three numbers of six at most -/
noncomputable def Le6 (a b c : Int) : Prop := a.natAbs ≤ 6 ∧ b.natAbs ≤ 6 ∧ c.natAbs ≤ 6
theorem Le6.sm {a b c : Int} (h : Le6 a b c) : [a, b, c].all smallI = true := all3 (small_of h.1) (small_of h.2.1) (small_of h.2.2)
theorem det_le {a b c d e f g h i : Int} (h0 : Le6 a b c) (h1 : Le6 d e f) (h2 : Le6 g h i) : (det9 a b c d e f g h i).natAbs ≤ 10000 :=
  Nat.le_trans (na_add (na_sub (na_mul h0.1 (m2 h1.2.1 h2.2.2 h1.2.2 h2.2.1)) (na_mul h0.2.1 (m2 h1.1 h2.2.2 h1.2.2 h2.1))) (na_mul h0.2.2 (m2 h1.1 h2.2.1 h1.2.1 h2.1))) (by decide)
theorem clr_1 {x y z p q r : Int} : clr [x, y, z] [p, q, r] p x 1 = [0, y * p - x * q, z * p - x * r] := by
  show [(x * p - x * p : Int).tdiv 1, (y * p - x * q : Int).tdiv 1, (z * p - x * r : Int).tdiv 1] = _
  rw [Int.tdiv_one, Int.tdiv_one, Int.tdiv_one, Int.sub_self]
/-- the first column with its pivot in the first row -/
theorem clr_2 {a b c d e f g h i : Int} (h0 : Le6 a b c) (h1 : Le6 d e f) (h2 : Le6 g h i) : clrAll 0 0 1 2 1 [[a, b, c], [d, e, f], [g, h, i]] = some [[a, b, c], [0, e * a - d * b, f * a - d * c], [0, h * a - g * b, i * a - g * c]] := by
  show (clrStep [[a, b, c], [d, e, f], [g, h, i]] 0 0 1 1).bind _ = _
  rw [clr_some (p := a) (o := d) rfl rfl rfl rfl (cond3 ⟨rfl, rfl⟩ h1.sm h0.sm (by decide) (by decide)), clr_1]
  show (clrStep [[a, b, c], [0, e * a - d * b, f * a - d * c], [g, h, i]] 0 0 2 1).bind _ = _
  rw [clr_some (p := a) (o := g) rfl rfl rfl rfl (cond3 ⟨rfl, rfl⟩ h2.sm h0.sm (by decide) (by decide)), clr_1]; rfl
theorem rest_of {a b c d e f g h i : Int} (odd : Bool) (h0 : Le6 a b c) (h1 : Le6 d e f) (h2 : Le6 g h i) (ha : a ≠ 0) :
    (stM 2 1 ⟨[[a, b, c], [0, e * a - d * b, f * a - d * c], [0, h * a - g * b, i * a - g * c]], [0], odd, a⟩).bind (finM 3) = some (if odd = true then -det9 a b c d e f g h i else det9 a b c d e f g h i) := by
  have hd := det_le h0 h1 h2
  refine rest3 (D := det9 a b c d e f g h i) odd rfl h0.sm ha (Nat.lt_of_le_of_lt h0.1 (by decide)) (small_of (m2 h1.2.1 h0.1 h1.1 h0.2.1)) (small_of (m2 h1.2.2 h0.1 h1.1 h0.2.2)) (small_of (m2 h2.2.1 h0.1 h2.1 h0.2.1)) (small_of (m2 h2.2.2 h0.1 h2.1 h0.2.2)) ?_ (small_of hd) (small_of (by rw [Int.natAbs_neg]; exact hd))
  unfold det9; grind
theorem det3 {a b c d e f g h i : Int} (h0 : Le6 a b c) (h1 : Le6 d e f) (h2 : Le6 g h i) (hz : a ≠ 0 ∨ d ≠ 0 ∨ g ≠ 0) :
    detM [[a, b, c], [d, e, f], [g, h, i]] = some (det9 a b c d e f g h i) := by
  have ok : rowsOk [[a, b, c], [d, e, f], [g, h, i]] 0 = true := rows3 (by decide) ⟨rfl, rfl, rfl⟩ h0.sm h1.sm h2.sm
  show (stM 3 0 ⟨[[a, b, c], [d, e, f], [g, h, i]], [], false, 1⟩).bind (finM 3) = _
  by_cases q1 : a = 0
  · subst q1
    by_cases q2 : d = 0
    · subst q2
      have q3 : g ≠ 0 := by simpa using hz
      refine st_go (step_some (sp := 2) (r1 := [[g, h, i], [0, e, f], [0, b, c]]) (b := g) ⟨ok, Nat.le_of_ble_eq_true rfl⟩ (if_pos q3) rfl (clr_2 h2 h1 h0) rfl) ((rest_of true h2 h1 h0 q3).trans ?_)
      congr 1; unfold det9; grind
    · refine st_go (step_some (sp := 1) (r1 := [[d, e, f], [0, b, c], [g, h, i]]) (b := d) ⟨ok, Nat.le_of_ble_eq_true rfl⟩ (if_pos q2) rfl (clr_2 h1 h0 h2) rfl) ((rest_of true h1 h0 h2 q2).trans ?_)
      congr 1; unfold det9; grind
  · exact st_go (step_some (sp := 0) (r1 := [[a, b, c], [d, e, f], [g, h, i]]) (b := a) ⟨ok, Nat.le_of_ble_eq_true rfl⟩ (if_pos q1) rfl (clr_2 h0 h1 h2) rfl) (rest_of false h0 h1 h2 q1)
noncomputable def colOk (m s t u q : Nat) : Bool := Nat.ble (aloneM m s q).natAbs 6 && Nat.ble (aloneM m t q).natAbs 6 && Nat.ble (aloneM m u q).natAbs 6 && (decide (aloneM m s q ≠ 0) || decide (aloneM m t q ≠ 0) || decide (aloneM m u q ≠ 0))
theorem ok_of {m s t u x y z : Nat} {es : DL} (hx : colOk m s t u x = true) (hy : colOk m s t u y = true) (hz : colOk m s t u z = true) (h0 : 0 ≤ dueM es [x, y, z]) (h30 : dueM es [x, y, z] < 2 ^ 30)
    (hd : dt m s t u x y z = if turnsM [x, y, z] 3 % 2 = 1 then -dueM es [x, y, z] else dueM es [x, y, z]) : okM m [s, t, u] es [x, y, z] = true := by
  unfold colOk at hx hy hz
  simp only [Bool.and_eq_true, decide_eq_true_eq, Bool.or_eq_true, Nat.ble_eq] at hx hy hz
  have e : detM (rowsM m [s, t, u] [x, y, z]) = some (dt m s t u x y z) := by
    unfold dt
    simp only [← alone_cI]
    exact det3 ⟨hx.1.1.1, hy.1.1.1, hz.1.1.1⟩ ⟨hx.1.1.2, hy.1.1.2, hz.1.1.2⟩ ⟨hx.1.2, hy.1.2, hz.1.2⟩ (or_assoc.mp hx.2)
  unfold okM
  rw [e]
  show (decide (0 ≤ dueM es [x, y, z]) && decide (dueM es [x, y, z] < 2 ^ 30) && decide (dt m s t u x y z = if turnsM [x, y, z] 3 % 2 = 1 then -dueM es [x, y, z] else dueM es [x, y, z])) = true
  rw [decide_eq_true h0, decide_eq_true h30, decide_eq_true hd]; rfl
theorem dt_le {m s t u x y z : Nat} (hx : colOk m s t u x = true) (hy : colOk m s t u y = true) (hz : colOk m s t u z = true) : (dt m s t u x y z).natAbs ≤ 10000 := by
  unfold colOk at hx hy hz
  simp only [Bool.and_eq_true, Nat.ble_eq] at hx hy hz
  unfold dt
  simp only [← alone_cI]
  exact det_le ⟨hx.1.1.1, hy.1.1.1, hz.1.1.1⟩ ⟨hx.1.1.2, hy.1.1.2, hz.1.1.2⟩ ⟨hx.1.2, hy.1.2, hz.1.2⟩
theorem apart_nd : ∀ {ks : List Int}, apartM ks = true → ks.Nodup
  | [], _ => List.nodup_nil
  | k :: ks, h => by
    rw [show apartM (k :: ks) = (!ks.contains k && apartM ks) from rfl, Bool.and_eq_true] at h
    exact List.nodup_cons.mpr ⟨by simpa using h.1, apart_nd h.2⟩
theorem law3_at {s t u m : Nat} (h1 : s < t) (h2 : t < u) (hc : ∀ q, q < u + m + 1 → colOk m s t u q = true) {x y z : Nat} (hx : x < u + m + 1) (hy : y < u + m + 1) (hz : z < u + m + 1) : okM m [s, t, u] (esM [s, t, u] m) [x, y, z] = true := by
  have hi := (inv_es (sp := [s, t, u]) (apart3.mpr ⟨by lia, by lia, by lia⟩) m).1
  have same : dt m s t u x y z = 0 → (x = y ∨ x = z ∨ y = z) → okM m [s, t, u] (esM [s, t, u] m) [x, y, z] = true := fun hd hq => by
    have hnd : ¬ apartM (sortM (toI [x, y, z])) = true := fun q => by
      have := (sortM_perm _).nodup_iff.mp (apart_nd q)
      simp [toI] at this
      lia
    have hdue : dueM (esM [s, t, u] m) [x, y, z] = 0 := by unfold dueM; rw [hi.off hnd]; rfl
    refine ok_of (hc _ hx) (hc _ hy) (hc _ hz) (by rw [hdue]; decide) (by rw [hdue]; decide) ?_
    rw [hdue, hd]; split <;> rfl
  have turn : ∀ {a b c : Nat}, (toI [a, b, c]).Perm (toI [x, y, z]) → a < b → b < c → c < u + m + 1 → (dt m s t u x y z = if turnsM [x, y, z] 3 % 2 = 1 then -dt m s t u a b c else dt m s t u a b c) → okM m [s, t, u] (esM [s, t, u] m) [x, y, z] = true := fun {a b c} hp hab hbc hc' hdd => by
    have hs : sortM (toI [x, y, z]) = toI [a, b, c] := (sorted_uniq _ hp (by simp [toI]; lia)).symm
    have hdue : dueM (esM [s, t, u] m) [x, y, z] = dt m s t u a b c := by unfold dueM; rw [hs]; exact law_dt h1 h2 m (by lia) (by lia)
    have hle := dt_le (hc a (by lia)) (hc b (by lia)) (hc c hc')
    refine ok_of (hc _ hx) (hc _ hy) (hc _ hz) ?_ (by rw [hdue]; lia) (by rw [hdd, hdue])
    exact hi.vpos _
  have ht : turnsM [x, y, z] 3 = (if y < x then 1 else 0) + ((if z < x then 1 else 0) + (if z < y then 1 else 0)) := by
    simp [turnsM, tooM]
  by_cases e1 : x = y
  · exact same (by rw [e1, dt_s1]) (.inl e1)
  by_cases e2 : x = z
  · exact same (by rw [e2, dt_12 m s t u y z z, dt_s2]; rfl) (.inr (.inl e2))
  by_cases e3 : y = z
  · exact same (by rw [e3, dt_s2]) (.inr (.inr e3))
  rcases Nat.lt_or_ge x y with xy | xy <;> rcases Nat.lt_or_ge x z with xz | xz <;> rcases Nat.lt_or_ge y z with yz | yz
  · -- x y z
    refine turn (a := x) (b := y) (c := z) (List.Perm.refl _) xy yz hz ?_
    have hv : turnsM [x, y, z] 3 = 0 := by rw [ht, if_neg (Nat.lt_asymm xy), if_neg (Nat.lt_asymm xz), if_neg (Nat.lt_asymm yz)]
    rw [hv, if_neg (by decide)]
  · -- x z y
    refine turn (a := x) (b := z) (c := y) ((List.Perm.swap _ _ _).cons _) xz (by lia) hy ?_
    have hv : turnsM [x, y, z] 3 = 1 := by rw [ht, if_neg (by lia), if_neg (by lia), if_pos (by lia)]
    rw [hv, if_pos (by decide), dt_23 m s t u x z y]
  · lia
  · -- z x y
    refine turn (a := z) (b := x) (c := y) ((List.Perm.swap _ _ _).trans ((List.Perm.swap _ _ _).cons _)) (by lia) xy hy ?_
    have hv : turnsM [x, y, z] 3 = 2 := by rw [ht, if_neg (by lia), if_pos (by lia), if_pos (by lia)]
    rw [hv, if_neg (by decide), dt_23 m s t u x z y, dt_12 m s t u z x y, Int.neg_neg]
  · -- y x z
    refine turn (a := y) (b := x) (c := z) (List.Perm.swap _ _ _) (by lia) xz hz ?_
    have hv : turnsM [x, y, z] 3 = 1 := by rw [ht, if_pos (by lia), if_neg (by lia), if_neg (by lia)]
    rw [hv, if_pos (by decide), dt_12 m s t u y x z]
  · lia
  · -- y z x
    refine turn (a := y) (b := z) (c := x) (((List.Perm.swap _ _ _).cons _).trans (List.Perm.swap _ _ _)) yz (by lia) hx ?_
    have hv : turnsM [x, y, z] 3 = 2 := by rw [ht, if_pos (by lia), if_pos (by lia), if_neg (by lia)]
    rw [hv, if_neg (by decide), dt_12 m s t u y x z, dt_23 m s t u y z x, Int.neg_neg]
  · -- z y x
    refine turn (a := z) (b := y) (c := x) ((List.Perm.swap _ _ _).trans (((List.Perm.swap _ _ _).cons _).trans (List.Perm.swap _ _ _))) (by lia) (by lia) hx ?_
    have hv : turnsM [x, y, z] 3 = 3 := by rw [ht, if_pos (by lia), if_pos (by lia), if_pos (by lia)]
    rw [hv, if_pos (by decide), dt_12 m s t u y x z, dt_23 m s t u y z x, dt_12 m s t u z y x, Int.neg_neg]
theorem allEnds_intro {n : Nat} : ∀ {k : Nat} {f : List Nat → Bool}, (∀ xs : List Nat, xs.length = k → (∀ x ∈ xs, x < n) → f xs = true) → allEnds n k f = true
  | 0, f, h => h [] rfl (by simp)
  | k + 1, f, h => by
    unfold allEnds
    rw [List.all_eq_true]
    exact fun x hx => allEnds_intro fun xs hl hlt => h (x :: xs) (by simp [hl]) fun y hy => by
      rcases List.mem_cons.mp hy with rfl | hy
      · exact List.mem_range.mp hx
      · exact hlt y hy
theorem law3_ok {m s t u : Nat} (h1 : s < t) (h2 : t < u) (hc : (List.range (u + m + 1)).all (colOk m s t u) = true) : lawM [s, t, u] m = true := by
  refine allEnds_intro fun xs hl hlt => ?_
  match xs, hl with
  | [x, y, z], _ => exact law3_at h1 h2 (fun q hq => List.all_eq_true.mp hc q (List.mem_range.mpr hq)) (hlt x (by simp)) (hlt y (by simp)) (hlt z (by simp))
theorem st_ok {sp : List Nat} (ha : apartM (toI sp) = true) (hl : sp.length ≤ 3) {m : Nat} (hm : m ≤ 3) : stOk sp.length (esM sp m) = true := by
  obtain ⟨h1, h2⟩ := inv_es ha m
  unfold stOk
  rw [decide_eq_true (Nat.le_trans h2 ?_), decide_eq_true h1.nd, List.all_eq_true.mpr fun e he => decide_eq_true (h1.len e he)]; rfl
  exact Nat.le_trans (Nat.le_trans (Nat.pow_le_pow_left (Nat.pow_le_pow_right (n := 2) (by decide) hl) m) (Nat.pow_le_pow_right (by decide) hm)) (by decide)
noncomputable def four : List Nat := [1, 2, 3, 4]
theorem cols_ok : ∀ t ∈ [1, 2], ∀ u ∈ [1, 2], ∀ m ∈ four, (List.range (t + u + m + 1)).all (colOk m 0 t (t + u)) = true := by decide +kernel
theorem law2_ok : ∀ t ∈ [1, 2], ∀ m ∈ four, lawM [0, t] m = true := by decide +kernel
theorem lawOk : LawOk := by
  intro n h1 h2 sp hsp m m1 m4
  have hm : m ∈ four := by
    have : m = 1 ∨ m = 2 ∨ m = 3 ∨ m = 4 := by lia
    rcases this with rfl | rfl | rfl | rfl <;> simp [four]
  have hn : n = 1 ∨ n = 2 := by lia
  rcases hn with rfl | rfl
  · have : ∃ t ∈ [1, 2], sp = [0, t] := by
      rcases (by simpa [allSp] using hsp : sp = [0, 1] ∨ sp = [0, 2]) with rfl | rfl
      · exact ⟨1, by simp, rfl⟩
      · exact ⟨2, by simp, rfl⟩
    obtain ⟨t, ht, rfl⟩ := this
    have t0 : 0 < t := by simp at ht; lia
    exact ⟨law2_ok t ht m hm, st_ok (sp := [0, t]) (by simp [apartM, toI]; lia) (Nat.le_of_ble_eq_true rfl) (by lia)⟩
  · have : ∃ t ∈ [1, 2], ∃ u ∈ [1, 2], sp = [0, t, t + u] := by
      rcases (by simpa [allSp, or_assoc] using hsp : sp = [0, 1, 2] ∨ sp = [0, 1, 3] ∨ sp = [0, 2, 3] ∨ sp = [0, 2, 4]) with rfl | rfl | rfl | rfl
      · exact ⟨1, by simp, 1, by simp, rfl⟩
      · exact ⟨1, by simp, 2, by simp, rfl⟩
      · exact ⟨2, by simp, 1, by simp, rfl⟩
      · exact ⟨2, by simp, 2, by simp, rfl⟩
    obtain ⟨t, ht, u, hu, rfl⟩ := this
    have t0 : 0 < t := by simp at ht; lia
    have u0 : 0 < u := by simp at hu; lia
    exact ⟨law3_ok t0 (by lia) (cols_ok t ht u hu m hm), st_ok (sp := [0, t, t + u]) (apart3.mpr ⟨by lia, by lia, by lia⟩) (Nat.le_of_ble_eq_true rfl) (by lia)⟩

end Mine
open PySem.W
set_option maxRecDepth 100000 in
set_option maxHeartbeats 8000000 in
theorem PySem.Challenge.cw_xm0393_01_holds : PySem.Challenge.rw_xm0393_01.Holds := by
  w_on; o_law; o_head Mine.hookTwo
  case hw => w_witness2
  case hc =>
    intro w s₀ s₁ mg mb G Y fa o pm cd doc dV kV ho hd hcd hD hmg hg args vals as hpre hlay hrd hwl hlo
    wrow_args hpre hlay hrd hwl hlo
    rename IntsAre _ _ => hI
    rename Heap.IsList _ _ _ => hL
    rename ¬ _ => hc63
    refine wpAny_mono (Mine.law_walk Mine.lawOk (Mine.fnsOk_of ?_) (by decide +kernel) (by decide +kernel) G Y hmg (by omega) hL hI) (fun v s' ⟨h1, h2, h3, h4⟩ => ?_) fun _ _ e => e.elim
    · unfold Mine.usedFns
      repeat (first | exact trivial | refine ⟨⟨_, rfl⟩, ?_⟩)
    · subst h1
      exact GoodW.toG ⟨.inl ⟨.bool true, .bool true, [], rfl, fun cls => rfl, .bool true, by wrow_post, fun _ => ⟨List.nodup_nil, by simp⟩⟩, h2, h3, h4.trans hg⟩

