import PyProof.Rows.All
import Wide.All
import OpenK.AllK
import Wide.FinOn
import PySem.Challenge.RW_rr0110_01
open PySem PySem.W PyProof.Rows
set_option Elab.async false
set_option linter.all false
section
open PySem PySem.W PyProof.Rows
namespace Mine

noncomputable abbrev Pg : Program := PySem.Challenge.pw_rr0110_01
noncomputable abbrev Md (w : World) : Model := model Pg w
noncomputable abbrev SK (w : World) : KeyKind Pg w Str := strKind Pg w

noncomputable abbrev TK (w : World) : HeapKind Pg w (List Int) := tupleKind (intKind Pg w)

/-- deep data: what a value is, apart from where it lies -/
inductive V where
  | raw (v : Value)
  | int (i : Int)
  | str (s : Str)
  | tup (ds : List V)
  | lst (ds : List V)
  | dct (kvs : List (Str × V))
  | ins (C : Addr) (fs : List (Str × V))
  | rng (lo hi : Int)
  | tdc (ks : List Int)

/-- a part of a heap -/
noncomputable def only (h : Heap) (p : Addr → Bool) : Heap :=
  ⟨h.objs.mapIdx fun i o => if p i then o else { cls := .none, data := .freed }, h.life⟩

theorem only_get (h : Heap) (p : Addr → Bool) (a : Addr) : (only h p).get? a = if p a then h.get? a else none := by
  obtain ⟨objs, l⟩ := h
  simp only [only, Heap.get?, Array.getElem?_mapIdx]
  cases hx : objs[a]? with
  | none => simp
  | some o =>
    simp only [Option.map_some]
    by_cases hp : p a = true
    · simp [hp]
    · simp [hp]
theorem only_some {h : Heap} {p : Addr → Bool} {a : Addr} {o : Obj} : (only h p).get? a = some o ↔ p a = true ∧ h.get? a = some o := by
  rw [only_get]; by_cases hp : p a = true <;> simp [hp]

/-- every object of b stands in h -/
noncomputable def Le (b h : Heap) : Prop := ∀ a o, b.get? a = some o → h.get? a = some o
theorem Le.refl (b : Heap) : Le b b := fun _ _ e => e
theorem Le.trans {a b c : Heap} (x : Le a b) (y : Le b c) : Le a c := fun _ _ e => y _ _ (x _ _ e)

mutual
noncomputable def VR (w : World) (b : Heap) : V → Value → Prop
  | .raw v, u => u = v
  | .int i, u => ∃ t, u = .int i t
  | .str x, u => ∃ t, u = .str x t
  | .tup ds, u => ∃ a vs, u = .ref a ∧ IsTup b a (List.toArray vs) ∧ VRs w b ds vs
  | .lst ds, u => ∃ a vs, u = .ref a ∧ PlainL b a (List.toArray vs) ∧ VRs w b ds vs
  | .dct kvs, u => ∃ a kv, u = .ref a ∧ (a == sysModules) = false ∧ b.DictOf (SK w) a kv ∧ VRp w b kvs kv
  | .ins C fs, u => ∃ x dx es n, u = .ref x ∧ b.get? x = some (instObj C dx) ∧ b.get? dx = some (dictOf es n) ∧ VRe w b fs es
  | .rng lo hi, u => ∃ x t₁ t₂ t₃, u = .ref x ∧ IsRange b x lo hi 1 t₁ t₂ t₃
  | .tdc ks, u => ∃ a xs, u = .ref a ∧ (a == sysModules) = false ∧ b.DictOfH (TK w) a xs ∧ xs.map (·.1) = ks.map fun k => [k]
noncomputable def VRs (w : World) (b : Heap) : List V → List Value → Prop
  | [], [] => True
  | d :: ds, v :: vs => VR w b d v ∧ VRs w b ds vs
  | _, _ => False
noncomputable def VRp (w : World) (b : Heap) : List (Str × V) → List (Str × Value) → Prop
  | [], [] => True
  | (x, d) :: ds, (y, v) :: vs => y = x ∧ VR w b d v ∧ VRp w b ds vs
  | _, _ => False
noncomputable def VRe (w : World) (b : Heap) : List (Str × V) → List DictEntry → Prop
  | [], [] => True
  | (x, d) :: ds, e :: vs => (∃ t, e.key = .str x t) ∧ VR w b d e.val ∧ VRe w b ds vs
  | _, _ => False
end

theorem Le.dictOfH {w : World} {b c : Heap} (k : Le b c) {a : Addr} {xs : List (List Int × Addr × Value)} (x : b.DictOfH (TK w) a xs) : c.DictOfH (TK w) a xs := by
  obtain ⟨o, es, ep, ho, h1, h2, h3, h4, h5⟩ := x
  exact ⟨o, es, ep, k _ _ ho, h1, h2, h3, fun y hy => let ⟨o, i, n, e, r⟩ := h4 y hy; ⟨o, i, n, k _ _ e, r⟩, h5⟩
theorem Le.dictOf {w : World} {b c : Heap} (k : Le b c) {a : Addr} {kv : List (Str × Value)} (x : b.DictOf (SK w) a kv) : c.DictOf (SK w) a kv := x.keep k

mutual
theorem VR.mono {w : World} {b c : Heap} (k : Le b c) : ∀ {d : V} {v : Value}, VR w b d v → VR w c d v
  | .raw _, _, h => h
  | .int _, _, h => h
  | .str _, _, h => h
  | .tup _, _, h => by
    simp only [VR] at h ⊢
    obtain ⟨a, vs, e, ht, hs⟩ := h
    exact ⟨a, vs, e, ht.keeps k, VRs.mono k hs⟩
  | .lst _, _, h => by
    simp only [VR] at h ⊢
    obtain ⟨a, vs, e, hl, hs⟩ := h
    exact ⟨a, vs, e, hl.keeps k, VRs.mono k hs⟩
  | .dct _, _, h => by
    simp only [VR] at h ⊢
    obtain ⟨a, kv, e, hm, hd, hp⟩ := h
    exact ⟨a, kv, e, hm, k.dictOf hd, VRp.mono k hp⟩
  | .ins _ _, _, h => by
    simp only [VR] at h ⊢
    obtain ⟨x, dx, es, n, e, h1, h2, hp⟩ := h
    exact ⟨x, dx, es, n, e, k _ _ h1, k _ _ h2, VRe.mono k hp⟩
  | .rng _ _, _, h => by
    simp only [VR] at h ⊢
    obtain ⟨x, t₁, t₂, t₃, e, h1⟩ := h
    exact ⟨x, t₁, t₂, t₃, e, k _ _ h1⟩
  | .tdc _, _, h => by
    simp only [VR] at h ⊢
    obtain ⟨a, xs, e, h1, h2, h3⟩ := h
    exact ⟨a, xs, e, h1, k.dictOfH h2, h3⟩
theorem VRs.mono {w : World} {b c : Heap} (k : Le b c) : ∀ {ds : List V} {vs : List Value}, VRs w b ds vs → VRs w c ds vs
  | [], [], h => h
  | _ :: _, _ :: _, h => by simp only [VRs] at h ⊢; exact ⟨h.1.mono k, VRs.mono k h.2⟩
  | [], _ :: _, h => by simp [VRs] at h
  | _ :: _, [], h => by simp [VRs] at h
theorem VRp.mono {w : World} {b c : Heap} (k : Le b c) : ∀ {ds : List (Str × V)} {vs : List (Str × Value)}, VRp w b ds vs → VRp w c ds vs
  | [], [], h => h
  | (_, _) :: _, (_, _) :: _, h => by simp only [VRp] at h ⊢; exact ⟨h.1, h.2.1.mono k, VRp.mono k h.2.2⟩
  | [], _ :: _, h => by simp [VRp] at h
  | _ :: _, [], h => by simp [VRp] at h
theorem VRe.mono {w : World} {b c : Heap} (k : Le b c) : ∀ {ds : List (Str × V)} {vs : List DictEntry}, VRe w b ds vs → VRe w c ds vs
  | [], [], h => h
  | (_, _) :: _, _ :: _, h => by simp only [VRe] at h ⊢; exact ⟨h.1, h.2.1.mono k, VRe.mono k h.2.2⟩
  | [], _ :: _, h => by simp [VRe] at h
  | _ :: _, [], h => by simp [VRe] at h
end

theorem VRs.length {w : World} {b : Heap} : ∀ {ds : List V} {vs : List Value}, VRs w b ds vs → vs.length = ds.length
  | [], [], _ => rfl
  | _ :: _, _ :: _, h => by simp only [VRs] at h; simp [VRs.length h.2]
  | [], _ :: _, h => by simp [VRs] at h
  | _ :: _, [], h => by simp [VRs] at h
theorem VRs.get {w : World} {b : Heap} : ∀ {ds : List V} {vs : List Value} {i : Nat} {d : V}, VRs w b ds vs → ds[i]? = some d → ∃ v, vs[i]? = some v ∧ VR w b d v
  | [], _, _, _, _, e => by simp at e
  | d :: ds, v :: vs, 0, _, h, e => by simp only [VRs] at h; simp at e; subst e; exact ⟨v, by simp, h.1⟩
  | d :: ds, v :: vs, i + 1, _, h, e => by
    simp only [VRs] at h; simp at e
    obtain ⟨u, h1, h2⟩ := VRs.get h.2 e
    exact ⟨u, by simpa using h1, h2⟩
  | _ :: _, [], _, _, h, _ => by simp [VRs] at h
theorem VRs.get' {w : World} {b : Heap} {ds : List V} {vs : List Value} {i : Nat} {v : Value} (h : VRs w b ds vs) (e : vs[i]? = some v) : ∃ d, ds[i]? = some d ∧ VR w b d v := by
  have hl := h.length
  have : i < ds.length := by rw [← hl]; exact (List.getElem?_eq_some_iff.mp e).1
  obtain ⟨u, h1, h2⟩ := h.get (List.getElem?_eq_getElem this)
  rw [e] at h1; cases h1
  exact ⟨_, List.getElem?_eq_getElem this, h2⟩
theorem VRs.append {w : World} {b : Heap} : ∀ {ds es : List V} {vs us : List Value}, VRs w b ds vs → VRs w b es us → VRs w b (ds ++ es) (vs ++ us)
  | [], _, [], _, _, h => h
  | _ :: _, _, _ :: _, _, h, g => by simp only [VRs, List.cons_append] at h ⊢; exact ⟨h.1, VRs.append h.2 g⟩
  | [], _, _ :: _, _, h, _ => by simp [VRs] at h
  | _ :: _, _, [], _, h, _ => by simp [VRs] at h
theorem VRs.take {w : World} {b : Heap} : ∀ {ds : List V} {vs : List Value} (n : Nat), VRs w b ds vs → VRs w b (ds.take n) (vs.take n)
  | _, _, 0, _ => by simp [VRs]
  | [], [], n + 1, _ => by simp [VRs]
  | _ :: _, _ :: _, n + 1, h => by simp only [VRs, List.take_succ_cons] at h ⊢; exact ⟨h.1, VRs.take n h.2⟩
  | [], _ :: _, _ + 1, h => by simp [VRs] at h
  | _ :: _, [], _ + 1, h => by simp [VRs] at h
theorem VRs.drop {w : World} {b : Heap} : ∀ {ds : List V} {vs : List Value} (n : Nat), VRs w b ds vs → VRs w b (ds.drop n) (vs.drop n)
  | _, _, 0, h => by simpa using h
  | [], [], n + 1, _ => by simp [VRs]
  | _ :: _, _ :: _, n + 1, h => by simp only [VRs, List.drop_succ_cons] at h ⊢; exact VRs.drop n h.2
  | [], _ :: _, _ + 1, h => by simp [VRs] at h
  | _ :: _, [], _ + 1, h => by simp [VRs] at h

noncomputable def lookV (kvs : List (Str × V)) (k : Str) : Option V := (kvs.find? fun kv => kv.1 = k).map (·.2)

theorem VRp.length {w : World} {b : Heap} : ∀ {ds : List (Str × V)} {vs : List (Str × Value)}, VRp w b ds vs → vs.length = ds.length
  | [], [], _ => rfl
  | (_, _) :: _, (_, _) :: _, h => by simp only [VRp] at h; simp [VRp.length h.2.2]
  | [], _ :: _, h => by simp [VRp] at h
  | _ :: _, [], h => by simp [VRp] at h
theorem VRp.find {w : World} {b : Heap} {k : Str} {d : V} : ∀ {ds : List (Str × V)} {vs : List (Str × Value)}, VRp w b ds vs → lookV ds k = some d → ∃ v, valueAt vs k = some v ∧ VR w b d v
  | [], _, _, e => by simp [lookV] at e
  | (x, d') :: ds, (y, v) :: vs, h, e => by
    simp only [VRp] at h
    obtain ⟨rfl, h1, h2⟩ := h
    by_cases hx : y = k
    · subst hx
      simp only [lookV, List.find?_cons, decide_true, Option.map_some, Option.some.injEq] at e
      subst e
      exact ⟨v, by simp [valueAt], h1⟩
    · have e' : lookV ds k = some d := by simpa [lookV, hx] using e
      obtain ⟨u, h3, h4⟩ := VRp.find h2 e'
      exact ⟨u, by simpa [valueAt, hx] using h3, h4⟩
  | _ :: _, [], h, _ => by simp [VRp] at h
theorem VRp.miss {w : World} {b : Heap} {k : Str} : ∀ {ds : List (Str × V)} {vs : List (Str × Value)}, VRp w b ds vs → lookV ds k = none → valueAt vs k = none
  | [], [], _, _ => by simp [valueAt]
  | (x, d') :: ds, (y, v) :: vs, h, e => by
    simp only [VRp] at h
    obtain ⟨rfl, h1, h2⟩ := h
    by_cases hx : y = k
    · subst hx; simp [lookV] at e
    · have e' : lookV ds k = none := by simpa [lookV, hx] using e
      simpa [valueAt, hx] using VRp.miss h2 e'
  | [], _ :: _, h, _ => by simp [VRp] at h
  | _ :: _, [], h, _ => by simp [VRp] at h

theorem VRe.find {w : World} {b : Heap} {k : Str} {d : V} : ∀ {ds : List (Str × V)} {es : List DictEntry}, VRe w b ds es → lookV ds k = some d → ∃ v, getL k es = some (some v) ∧ VR w b d v
  | [], _, _, e => by simp [lookV] at e
  | (x, d') :: ds, y :: vs, h, e => by
    simp only [VRe] at h
    obtain ⟨⟨t, ht⟩, h1, h2⟩ := h
    by_cases hx : x = k
    · subst hx
      simp only [lookV, List.find?_cons, decide_true, Option.map_some, Option.some.injEq] at e
      subst e
      exact ⟨y.val, by simp [getL, ht, Value.isStr], h1⟩
    · have e' : lookV ds k = some d := by simpa [lookV, hx] using e
      obtain ⟨u, h3, h4⟩ := VRe.find h2 e'
      refine ⟨u, ?_, h4⟩
      have hy : y.key.isStr k = false := by rw [ht]; simpa [Value.isStr] using hx
      unfold getL at h3 ⊢
      rw [List.find?_cons, hy]
      simp only [List.any_cons]
      split
      · rename_i e1 he1; rw [he1] at h3; exact h3
      · rename_i he1; rw [he1] at h3; dsimp only at h3; split at h3 <;> cases h3
  | _ :: _, [], h, _ => by simp [VRe] at h
theorem VRe.miss {w : World} {b : Heap} {k : Str} : ∀ {ds : List (Str × V)} {es : List DictEntry}, VRe w b ds es → lookV ds k = none → getL k es = some none
  | [], [], _, _ => by simp [getL]
  | (x, d') :: ds, y :: vs, h, e => by
    simp only [VRe] at h
    obtain ⟨⟨t, ht⟩, h1, h2⟩ := h
    by_cases hx : x = k
    · subst hx; simp [lookV] at e
    · have e' : lookV ds k = none := by simpa [lookV, hx] using e
      have ih := VRe.miss h2 e'
      have hy : y.key.isStr k = false := by rw [ht]; simpa [Value.isStr] using hx
      have hr : y.refKey = false := by simp [DictEntry.refKey, ht]
      unfold getL at ih ⊢
      rw [List.find?_cons, hy]
      simp only [List.any_cons, hr, Bool.false_or]
      exact ih
  | [], _ :: _, h, _ => by simp [VRe] at h
  | _ :: _, [], h, _ => by simp [VRe] at h
end Mine
end
section
open PySem PySem.W PyProof.Rows
namespace Mine

/-- an object that the code at hand may still change -/
inductive O where
  | list (ds : List V)
  | dict (kvs : List (Str × V))
  | attrs (x C : Addr) (fs : List (Str × V))
noncomputable abbrev Own := List (Addr × O)

noncomputable def OAt (w : World) (b h : Heap) (a : Addr) : O → Prop
  | .list ds => ∃ vs, PlainL h a (List.toArray vs) ∧ VRs w b ds vs
  | .dict kvs => ∃ kv, (a == sysModules) = false ∧ h.DictOf (SK w) a kv ∧ VRp w b kvs kv
  | .attrs x C fs => b.get? x = some (instObj C a) ∧ ∃ es n, h.get? a = some (dictOf es n) ∧ VRe w b fs es ∧ es.length ≤ 900

theorem OAt.live {w : World} {b h : Heap} {a : Addr} {o : O} (x : OAt w b h a o) : ∃ q, h.get? a = some q := by
  cases o with
  | list ds => obtain ⟨_, ⟨q, _, hq, _⟩, _⟩ := x; exact ⟨q, hq⟩
  | dict kvs => obtain ⟨_, _, ⟨q, _, _, hq, _⟩, _⟩ := x; exact ⟨q, hq⟩
  | attrs x C fs => obtain ⟨_, _, _, hq, _⟩ := x; exact ⟨_, hq⟩
theorem OAt.keep {w : World} {b c h h' : Heap} {a : Addr} {o : O} (x : OAt w b h a o) (k : Le b c) (e : ∀ q, h.get? a = some q → h'.get? a = some q) : OAt w c h' a o := by
  cases o with
  | list ds => obtain ⟨vs, ⟨q, n, hq, r⟩, hv⟩ := x; exact ⟨vs, ⟨q, n, e _ hq, r⟩, hv.mono k⟩
  | dict kvs => obtain ⟨kv, hm, ⟨q, es, ep, hq, r⟩, hv⟩ := x; exact ⟨kv, hm, ⟨q, es, ep, e _ hq, r⟩, hv.mono k⟩
  | attrs x C fs => obtain ⟨hx, es, n, hq, hv, hl⟩ := x; exact ⟨k _ _ hx, es, n, e _ hq, hv.mono k, hl⟩

/-- the frame: where the names lie -/
structure Fm (env : Env) (h : Heap) (m cm : Str → Option Value) : Prop where
  ns : h.Ns env.locals m
  cell : ∀ n c, env.cells.lookup n = some c → h.IsCell c (cm n)
  apart : env.cells.Pairwise fun x y => x.2 ≠ y.2
  ne : ∀ n c, env.cells.lookup n = some c → env.locals ≠ c

noncomputable def Priv (env : Env) (a : Addr) : Prop := a = env.locals ∨ ∃ n, env.cells.lookup n = some a

theorem Fm.live {env : Env} {h : Heap} {m cm} (F : Fm env h m cm) {a : Addr} (p : Priv env a) : ∃ q, h.get? a = some q := by
  rcases p with rfl | ⟨n, hn⟩
  · obtain ⟨o, _, _, ho, _⟩ := F.ns; exact ⟨o, ho⟩
  · obtain ⟨o, ho, _⟩ := F.cell n a hn; exact ⟨o, ho⟩
theorem Fm.keep {env : Env} {h h' : Heap} {m cm} (F : Fm env h m cm) (k : ∀ a, Priv env a → ∀ q, h.get? a = some q → h'.get? a = some q) : Fm env h' m cm where
  ns := let ⟨o, es, ep, ho, r⟩ := F.ns; ⟨o, es, ep, k _ (.inl rfl) _ ho, r⟩
  cell := fun n c hc => let ⟨o, ho, r⟩ := F.cell n c hc; ⟨o, k _ (.inr ⟨n, hc⟩) _ ho, r⟩
  apart := F.apart
  ne := F.ne

noncomputable def nameVal (env : Env) (m cm : Str → Option Value) (x : Str) : Option Value :=
  if env.kindOf x = some .local then m x else if env.kindOf x = some .cell then (if (env.cells.lookup x).isSome then cm x else none) else none

structure EnvOk (env : Env) : Prop where
  fn : env.scope.kind = .function
  gl : env.globals = mainGlobals
  bl : env.builtins = builtinsNs

noncomputable abbrev Names := Str → Option V

structure Loc (w : World) (H : Heap) (env : Env) (b h : Heap) (ρ : Names) (own : Own) : Prop where
  ok : EnvOk env
  base : Le H b
  sub : Le b h
  frm : ∃ m cm, Fm env h m cm ∧ ∀ x d, ρ x = some d → ∃ v, nameVal env m cm x = some v ∧ VR w b d v
  priv : ∀ a, Priv env a → b.get? a = none
  ow : ∀ p ∈ own, OAt w b h p.1 p.2
  ownb : ∀ p ∈ own, b.get? p.1 = none
  ownp : ∀ p ∈ own, ¬ Priv env p.1
  nodup : (own.map (·.1)).Nodup

/-- one step of the whole: what stays, what the frozen part gains -/
structure Step (own : Own) (b : Heap) (s : Shared) (b' : Heap) (s' : Shared) : Prop where
  same : ∃ h tk, s' = { s with heap := h, toks := tk }
  keep : ∀ a o, a ∉ own.map (·.1) → s.heap.get? a = some o → s'.heap.get? a = some o
  live : ∀ a o, s.heap.get? a = some o → ∃ q, s'.heap.get? a = some q
  grow : Le b b'
  fresh : ∀ a o, b'.get? a = some o → b.get? a = some o ∨ s.heap.get? a = none

theorem Step.refl {own : Own} {b : Heap} {s : Shared} : Step own b s b s := ⟨⟨_, _, rfl⟩, fun _ _ _ e => e, fun _ o e => ⟨o, e⟩, Le.refl _, fun _ _ e => .inl e⟩
theorem Step.trans {o₁ o₂ : Own} {b₁ b₂ b₃ : Heap} {s₁ s₂ s₃ : Shared} (x : Step o₁ b₁ s₁ b₂ s₂) (e : o₂.map (·.1) = o₁.map (·.1)) (y : Step o₂ b₂ s₂ b₃ s₃) : Step o₁ b₁ s₁ b₃ s₃ where
  same := by
    obtain ⟨h, t, rfl⟩ := x.same
    obtain ⟨h', t', rfl⟩ := y.same
    exact ⟨h', t', rfl⟩
  keep := fun a o ha ho => y.keep a o (e ▸ ha) (x.keep a o ha ho)
  live := fun a o ho => let ⟨q, hq⟩ := x.live a o ho; y.live a q hq
  grow := x.grow.trans y.grow
  fresh := fun a o ho => by
    rcases y.fresh a o ho with h | h
    · exact x.fresh a o h
    · right
      cases hs : s₁.heap.get? a with
      | none => rfl
      | some q => obtain ⟨q', hq'⟩ := x.live a q hs; rw [hq'] at h; cases h

/-- what a step that only makes things adds to the frozen part -/
noncomputable def growH (b h h' : Heap) : Heap := only h' fun a => (h.get? a).isNone || (b.get? a).isSome
theorem growH_some {b h h' : Heap} {a : Addr} {o : Obj} : (growH b h h').get? a = some o ↔ (h.get? a = none ∨ (b.get? a).isSome = true) ∧ h'.get? a = some o := by
  rw [growH, only_some]; simp
theorem growH_le {b h h' : Heap} : Le (growH b h h') h' := fun _ _ e => (growH_some.mp e).2
theorem le_growH {b h h' : Heap} (s : Le b h) (k : Le h h') : Le b (growH b h h') := fun _ _ e => growH_some.mpr ⟨.inr (by rw [e]; rfl), k _ _ (s _ _ e)⟩
theorem growH_fresh {b h h' : Heap} (s : Le b h) (k : Le h h') {a : Addr} {o : Obj} (e : (growH b h h').get? a = some o) : b.get? a = some o ∨ h.get? a = none := by
  obtain ⟨h1 | h1, h2⟩ := growH_some.mp e
  · exact .inr h1
  · left
    obtain ⟨q, hq⟩ := Option.isSome_iff_exists.mp h1
    rw [hq, ← h2, k _ _ (s _ _ hq)]
theorem growH_none {b h h' : Heap} {a : Addr} (hb : b.get? a = none) (hl : ∃ q, h.get? a = some q) : (growH b h h').get? a = none := by
  cases e : (growH b h h').get? a with
  | none => rfl
  | some o =>
    obtain ⟨h1 | h1, _⟩ := growH_some.mp e
    · obtain ⟨q, hq⟩ := hl; rw [hq] at h1; cases h1
    · rw [hb] at h1; cases h1
/-- a thing new in h' -/
theorem growH_new {b h h' : Heap} {a : Addr} {o : Obj} (hn : h.get? a = none) (e : h'.get? a = some o) : (growH b h h').get? a = some o := growH_some.mpr ⟨.inl hn, e⟩

theorem Keeps.le {s s' : Shared} (k : Keeps s s') : Le s.heap s'.heap := by obtain ⟨_, _, rfl, h⟩ := k; exact h
theorem Keeps.refl {s : Shared} : Keeps s s := ⟨_, _, rfl, fun _ _ e => e⟩
theorem Keeps.tok {s : Shared} (t : Nat) : Keeps s { s with toks := t } := ⟨_, _, rfl, fun _ _ e => e⟩
theorem Keeps.push {s : Shared} (o : Obj) (t : Nat) : Keeps s { s with heap := s.heap.push o, toks := t } := ⟨_, _, rfl, fun _ _ e => Heap.get?_push_of_some o e⟩

theorem Step.pure {own : Own} {b : Heap} {s s' : Shared} (sub : Le b s.heap) (k : Keeps s s') : Step own b s (growH b s.heap s'.heap) s' where
  same := by obtain ⟨_, _, rfl, _⟩ := k; exact ⟨_, _, rfl⟩
  keep := fun _ _ _ e => Keeps.le k _ _ e
  live := fun _ _ e => ⟨_, Keeps.le k _ _ e⟩
  grow := le_growH sub (Keeps.le k)
  fresh := fun _ _ e => growH_fresh sub (Keeps.le k) e

theorem Loc.pure {w : World} {H : Heap} {env : Env} {b : Heap} {s s' : Shared} {ρ : Names} {own : Own} (L : Loc w H env b s.heap ρ own) (k : Keeps s s') : Loc w H env (growH b s.heap s'.heap) s'.heap ρ own := by
  have g := le_growH L.sub (Keeps.le k)
  obtain ⟨m, cm, F, hv⟩ := L.frm
  exact ⟨L.ok, L.base.trans g, growH_le, ⟨m, cm, F.keep fun a _ q e => Keeps.le k _ _ e, fun x d e => let ⟨v, h1, h2⟩ := hv x d e; ⟨v, h1, h2.mono g⟩⟩,
    fun a p => growH_none (L.priv a p) (F.live p), fun p hp => (L.ow p hp).keep g fun q e => Keeps.le k _ _ e,
    fun p hp => growH_none (L.ownb p hp) (L.ow p hp).live, L.ownp, L.nodup⟩

noncomputable abbrev NoE : Value → Shared → Prop := fun _ _ => False

theorem wp_any {α : Type} {M : Model} {A : Around} {t : Sem α} {Q : α → Shared → Prop} {E : Value → Shared → Prop} {s : Shared} (h : wpAny M A t Q NoE s) : wpAny M A t Q E s := wpAny_mono h (fun _ _ x => x) fun _ _ x => x.elim

/-- room enough for n more calls -/
structure Rm (n : Nat) (A : Around) : Prop where
  hd : A.handled = none
  dp : A.depth + n < recursionLimit
  un : A.units + 16 * n + 16 < cLine
theorem Rm.le {n k : Nat} {A : Around} (r : Rm n A) (h : k ≤ n) : Rm k A := ⟨r.hd, by have := r.dp; (first | assumption | exact Nat.le_of_ble_eq_true rfl | exact Nat.add_le_add_left (Nat.le_of_ble_eq_true rfl) _ | exact Nat.le_trans (by assumption) (Nat.le_of_ble_eq_true rfl) | lia | omega), by have := r.un; (first | assumption | exact Nat.le_of_ble_eq_true rfl | exact Nat.add_le_add_left (Nat.le_of_ble_eq_true rfl) _ | exact Nat.le_trans (by assumption) (Nat.le_of_ble_eq_true rfl) | lia | omega)⟩
theorem Rm.units {n : Nat} {A : Around} (r : Rm n A) : A.units < cLine := by have := r.un; (first | assumption | exact Nat.le_of_ble_eq_true rfl | exact Nat.add_le_add_left (Nat.le_of_ble_eq_true rfl) _ | exact Nat.le_trans (by assumption) (Nat.le_of_ble_eq_true rfl) | lia | omega)
theorem Rm.depth {n : Nat} {A : Around} (r : Rm n A) : A.depth < recursionLimit := by have := r.dp; (first | assumption | exact Nat.le_of_ble_eq_true rfl | exact Nat.add_le_add_left (Nat.le_of_ble_eq_true rfl) _ | exact Nat.le_trans (by assumption) (Nat.le_of_ble_eq_true rfl) | lia | omega)
theorem Rm.deeper {n : Nat} {A : Around} (r : Rm (n + 1) A) (env : Env) : Rm n (A.deeper env) := ⟨r.hd, by have := r.dp; show A.depth + 1 + n < _; (first | assumption | exact Nat.le_of_ble_eq_true rfl | exact Nat.add_le_add_left (Nat.le_of_ble_eq_true rfl) _ | exact Nat.le_trans (by assumption) (Nat.le_of_ble_eq_true rfl) | lia | omega), by have := r.un; show A.units + 3 + 16 * n + 16 < _; (first | assumption | exact Nat.le_of_ble_eq_true rfl | exact Nat.add_le_add_left (Nat.le_of_ble_eq_true rfl) _ | exact Nat.le_trans (by assumption) (Nat.le_of_ble_eq_true rfl) | lia | omega)⟩
/-- an action that makes only -/
noncomputable def Act (w : World) (A : Around) (b : Heap) (s : Shared) (t : Sem Value) (d : V) : Prop :=
  wpAny (Md w) A t (fun v s' => Keeps s s' ∧ VR w (growH b s.heap s'.heap) d v) NoE s

/-- the judgement on expressions -/
noncomputable def Ev (w : World) (H : Heap) (n : Nat) (env : Env) (ρ : Names) (own : Own) (e : Expr) (d : V) (own' : Own) : Prop :=
  own'.map (·.1) = own.map (·.1) ∧ ∀ A b s, Rm n A → Loc w H env b s.heap ρ own →
    wpAny (Md w) A (eval e env) (fun v s' => ∃ b', Step own b s b' s' ∧ Loc w H env b' s'.heap ρ own' ∧ VR w b' d v) NoE s
/-- the judgement on tests -/
noncomputable def Te (w : World) (H : Heap) (n : Nat) (env : Env) (ρ : Names) (own : Own) (e : Expr) (r : Bool) (own' : Own) : Prop :=
  own'.map (·.1) = own.map (·.1) ∧ ∀ A b s, Rm n A → Loc w H env b s.heap ρ own →
    wpAny (Md w) A (isTrue e env (eval e env)) (fun v s' => v = r ∧ ∃ b', Step own b s b' s' ∧ Loc w H env b' s'.heap ρ own') NoE s

theorem Act.use {w : World} {H : Heap} {env : Env} {A : Around} {b : Heap} {s : Shared} {ρ : Names} {own : Own} {t : Sem Value} {d : V} (L : Loc w H env b s.heap ρ own) (a : Act w A b s t d) :
    wpAny (Md w) A t (fun v s' => ∃ b', Step own b s b' s' ∧ Loc w H env b' s'.heap ρ own ∧ VR w b' d v) NoE s :=
  wpAny_mono a (fun _ _ ⟨k, r⟩ => ⟨_, Step.pure L.sub k, L.pure k, r⟩) fun _ _ x => x
end Mine
end
section
open PySem PySem.W PyProof.Rows
namespace Mine

section
variable {w : World} {H : Heap} {n : Nat} {env : Env} {ρ : Names} {o₀ o₁ o₂ o₃ : Own}

/-- what stands behind an expression's step -/
noncomputable def Pt (w : World) (H : Heap) (env : Env) (ρ : Names) (own : Own) (b : Heap) (s : Shared) (own' : Own) (d : V) (v : Value) (s' : Shared) : Prop :=
  ∃ b', Step own b s b' s' ∧ Loc w H env b' s'.heap ρ own' ∧ VR w b' d v
theorem Pt.pre {b b₁ : Heap} {s s₁ s' : Shared} {d : V} {v : Value} (st : Step o₀ b s b₁ s₁) (e : o₁.map (·.1) = o₀.map (·.1)) (p : Pt w H env ρ o₁ b₁ s₁ o₂ d v s') : Pt w H env ρ o₀ b s o₂ d v s' :=
  let ⟨b', st', L, r⟩ := p; ⟨b', st.trans e st', L, r⟩
theorem Pt.of_keeps {A : Around} {b : Heap} {s s' : Shared} {own : Own} {d : V} {v : Value} (L : Loc w H env b s.heap ρ own) (k : Keeps s s') (r : VR w (growH b s.heap s'.heap) d v) : Pt w H env ρ own b s own d v s' :=
  ⟨_, Step.pure L.sub k, L.pure k, r⟩
theorem VR.up {b : Heap} {s s' : Shared} {d : V} {v : Value} (r : VR w b d v) (sub : Le b s.heap) (k : Keeps s s') : VR w (growH b s.heap s'.heap) d v := r.mono (le_growH sub (Keeps.le k))
theorem Pt.same {b : Heap} {s : Shared} {own : Own} {d : V} {v : Value} (L : Loc w H env b s.heap ρ own) (t : Nat) (r : VR w b d v) : Pt w H env ρ own b s own d v { s with toks := t } :=
  ⟨b, ⟨⟨_, _, rfl⟩, fun _ _ _ e => e, fun _ o e => ⟨o, e⟩, Le.refl _, fun _ _ e => .inl e⟩, L, r⟩

theorem Ev.mk {e : Expr} {d : V} (hk : o₁.map (·.1) = o₀.map (·.1)) (h : ∀ A b s, Rm n A → Loc w H env b s.heap ρ o₀ → wpAny (Md w) A (eval e env) (Pt w H env ρ o₀ b s o₁ d) NoE s) : Ev w H n env ρ o₀ e d o₁ := ⟨hk, h⟩
theorem Ev.run {e : Expr} {d : V} (x : Ev w H n env ρ o₀ e d o₁) {A : Around} {b : Heap} {s : Shared} (r : Rm n A) (L : Loc w H env b s.heap ρ o₀) : wpAny (Md w) A (eval e env) (Pt w H env ρ o₀ b s o₁ d) NoE s := x.2 A b s r L

theorem Ev.constInt {i : Int} {k pos} : Ev w H n env ρ o₀ (.Constant (.int i) k pos) (.int i) o₀ :=
  .mk rfl fun _ _ _ _ L => wpAny_Constant_int (Pt.same L _ ⟨_, rfl⟩)
theorem Ev.constStr {x : Str} {k pos} : Ev w H n env ρ o₀ (.Constant (.str x) k pos) (.str x) o₀ :=
  .mk rfl fun _ _ _ _ L => Calls.Constant_str (Pt.same L _ ⟨_, rfl⟩)
theorem Ev.constBool {b : Bool} {k pos} : Ev w H n env ρ o₀ (.Constant (.bool b) k pos) (.raw (.bool b)) o₀ :=
  .mk rfl fun _ _ s _ L => by
    show wpAny _ _ (pure (Value.bool b)) _ _ _
    exact wpAny_pure (Pt.same (s := s) L s.toks rfl)
theorem Ev.constNone {k pos} : Ev w H n env ρ o₀ (.Constant .none k pos) (.raw .none) o₀ :=
  .mk rfl fun _ _ s _ L => by
    show wpAny _ _ (pure Value.none) _ _ _
    exact wpAny_pure (Pt.same (s := s) L s.toks rfl)

theorem wp_loadName {A : Around} {E : Value → Shared → Prop} {s : Shared} {m cm : Str → Option Value} {x : Str} {v : Value} {Q : Value → Shared → Prop} (ok : EnvOk env) (F : Fm env s.heap m cm) (hv : nameVal env m cm x = some v) (h : Q v s) :
    wpAny (Md w) A (loadName env x) Q E s := by
  unfold nameVal at hv
  by_cases h1 : env.kindOf x = some .local
  · rw [if_pos h1] at hv; exact wpAny_loadName_local ok.fn h1 F.ns hv h
  · rw [if_neg h1] at hv
    by_cases h2 : env.kindOf x = some .cell
    · rw [if_pos h2] at hv
      cases h3 : env.cells.lookup x with
      | none => rw [h3] at hv; cases hv
      | some c => rw [h3] at hv; exact wpAny_loadName_cell ok.fn h2 h3 (hv ▸ F.cell x c h3) h
    · rw [if_neg h2] at hv; cases hv

theorem Ev.name {x : Str} {pos : Pos} {d : V} (hx : ρ x = some d) (hd : (x == ("__debug__" : Str)) = false := by (first | kernel_rfl | decide +kernel)) : Ev w H n env ρ o₀ (.Name x pos) d o₀ :=
  .mk rfl fun _ _ s _ L => by
    obtain ⟨m, cm, F, hv⟩ := L.frm
    obtain ⟨v, h1, h2⟩ := hv x d hx
    exact wpAny_Name (wp_loadName L.ok F h1 (Pt.same (s := s) L s.toks h2)) hd

/-- the globals and builtins that the code reads -/
structure Gl (H : Heap) (mg mb : Str → Option Value) : Prop where
  g : H.Ns mainGlobals mg
  b : H.Ns builtinsNs mb
  lim : H.NoLimit

theorem Ev.glob {x : Str} {pos : Pos} {v : Value} {mg mb : Str → Option Value} (G : Gl H mg mb) (hk : env.kindOf x = some .globalImplicit) (hx : mg x = some v) (hd : (x == ("__debug__" : Str)) = false := by (first | kernel_rfl | decide +kernel)) :
    Ev w H n env ρ o₀ (.Name x pos) (.raw v) o₀ :=
  .mk rfl fun _ _ s _ L => Calls.Name_function_global L.ok.fn hk (Calls.loadGlobal_global (by rw [L.ok.gl]; exact (G.g.keeps L.base).keeps L.sub) hx (Pt.same (s := s) L s.toks rfl)) hd
theorem Ev.blt {x : Str} {pos : Pos} {v : Value} {mg mb : Str → Option Value} (G : Gl H mg mb) (hk : env.kindOf x = some .globalImplicit) (hn : mg x = none) (hx : mb x = some v) (hd : (x == ("__debug__" : Str)) = false := by (first | kernel_rfl | decide +kernel)) :
    Ev w H n env ρ o₀ (.Name x pos) (.raw v) o₀ :=
  .mk rfl fun _ _ s _ L => Calls.Name_function_global L.ok.fn hk (Calls.loadGlobal_builtin (by rw [L.ok.gl]; exact (G.g.keeps L.base).keeps L.sub) hn (by rw [L.ok.bl]; exact (G.b.keeps L.base).keeps L.sub) hx (Pt.same (s := s) L s.toks rfl)) hd

/-- an operation on two values -/
noncomputable def Op2 (w : World) (H : Heap) (n : Nat) (env : Env) (ρ : Names) (own : Own) (t : Value → Value → Sem Value) (a c d : V) : Prop :=
  ∀ A b s u v, Rm n A → Loc w H env b s.heap ρ own → VR w b a u → VR w b c v → Act w A b s (t u v) d
noncomputable def Op1 (w : World) (H : Heap) (n : Nat) (env : Env) (ρ : Names) (own : Own) (t : Value → Sem Value) (a d : V) : Prop :=
  ∀ A b s u, Rm n A → Loc w H env b s.heap ρ own → VR w b a u → Act w A b s (t u) d

theorem Act.pt {A : Around} {b : Heap} {s : Shared} {own : Own} {t : Sem Value} {d : V} (L : Loc w H env b s.heap ρ own) (a : Act w A b s t d) : wpAny (Md w) A t (Pt w H env ρ own b s own d) NoE s := a.use L

theorem Ev.then2 {e₁ e₂ : Expr} {a c d : V} {t : Value → Value → Sem Value} (x : Ev w H n env ρ o₀ e₁ a o₁) (y : Ev w H n env ρ o₁ e₂ c o₂) (op : Op2 w H n env ρ o₂ t a c d) {A : Around} {b : Heap} {s : Shared} (r : Rm n A) (L : Loc w H env b s.heap ρ o₀) :
    wpAny (Md w) A (eval e₁ env) (fun u s₁ => wpAny (Md w) A (eval e₂ env) (fun v s₂ => wpAny (Md w) A (t u v) (Pt w H env ρ o₀ b s o₂ d) NoE s₂) NoE s₁) NoE s :=
  wpAny_mono (x.run r L) (fun u s₁ ⟨b₁, st₁, L₁, r₁⟩ => wpAny_mono (y.run r L₁) (fun v s₂ ⟨b₂, st₂, L₂, r₂⟩ =>
    wpAny_mono ((op A b₂ s₂ u v r L₂ (r₁.mono st₂.grow) r₂).pt L₂) (fun _ _ p => (p.pre st₂ y.1).pre st₁ x.1) fun _ _ f => f) fun _ _ f => f) fun _ _ f => f

theorem Ev.binop {l r : Expr} {op : Operator} {pos : Pos} {a c d : V} (x : Ev w H n env ρ o₀ l a o₁) (y : Ev w H n env ρ o₁ r c o₂) (h : Op2 w H n env ρ o₂ (binaryOp op) a c d) : Ev w H n env ρ o₀ (.BinOp l op r pos) d o₂ :=
  .mk (y.1.trans x.1) fun _ _ _ rm L => wpAny_BinOp (x.then2 y h rm L)

theorem Ev.cmp {l r : Expr} {op : CmpOp} {pos : Pos} {a c : V} {d : V} (x : Ev w H n env ρ o₀ l a o₁) (y : Ev w H n env ρ o₁ r c o₂) (h : Op2 w H n env ρ o₂ (compareOp op) a c d) (hm : behindInMarks op r = false := by rfl) : Ev w H n env ρ o₀ (.Compare l [op] [r] pos) d o₂ :=
  .mk (y.1.trans x.1) fun _ _ _ rm L => wpAny_Compare1 (x.then2 y h rm L) hm

noncomputable def Pb (w : World) (H : Heap) (env : Env) (ρ : Names) (own : Own) (b : Heap) (s : Shared) (own' : Own) (r : Bool) (v : Bool) (s' : Shared) : Prop :=
  v = r ∧ ∃ b', Step own b s b' s' ∧ Loc w H env b' s'.heap ρ own'
theorem Te.mk {e : Expr} {d : Bool} (hk : o₁.map (·.1) = o₀.map (·.1)) (h : ∀ A b s, Rm n A → Loc w H env b s.heap ρ o₀ → wpAny (Md w) A (isTrue e env (eval e env)) (Pb w H env ρ o₀ b s o₁ d) NoE s) : Te w H n env ρ o₀ e d o₁ := ⟨hk, h⟩
theorem Te.run {e : Expr} {d : Bool} (x : Te w H n env ρ o₀ e d o₁) {A : Around} {b : Heap} {s : Shared} (r : Rm n A) (L : Loc w H env b s.heap ρ o₀) : wpAny (Md w) A (isTrue e env (eval e env)) (Pb w H env ρ o₀ b s o₁ d) NoE s := x.2 A b s r L
theorem Pb.pre {b b₁ : Heap} {s s₁ s' : Shared} {d v : Bool} (st : Step o₀ b s b₁ s₁) (e : o₁.map (·.1) = o₀.map (·.1)) (p : Pb w H env ρ o₁ b₁ s₁ o₂ d v s') : Pb w H env ρ o₀ b s o₂ d v s' :=
  let ⟨hv, b', st', L⟩ := p; ⟨hv, b', st.trans e st', L⟩

/-- the truth of a value -/
noncomputable def Tru (w : World) (H : Heap) (n : Nat) (env : Env) (ρ : Names) (own : Own) (a : V) (r : Bool) : Prop :=
  ∀ A b s u, Rm n A → Loc w H env b s.heap ρ own → VR w b a u → wpAny (Md w) A (truthy u) (fun v s' => v = r ∧ Keeps s s') NoE s
theorem Tru.bool {b : Bool} : Tru w H n env ρ o₀ (.raw (.bool b)) b := fun _ _ s _ _ _ h => by cases h; exact wpAny_truthy_bool ⟨rfl, Keeps.refl⟩
theorem Tru.run {A : Around} {b : Heap} {s : Shared} {own : Own} {a : V} {u : Value} {q : Bool} (t : Tru w H n env ρ own a q) (r : Rm n A) (L : Loc w H env b s.heap ρ own) (h : VR w b a u) : wpAny (Md w) A (truthy u) (Pb w H env ρ own b s own q) NoE s :=
  wpAny_mono (t A b s u r L h) (fun _ _ ⟨e, k⟩ => ⟨e, _, Step.pure L.sub k, L.pure k⟩) fun _ _ f => f

theorem Te.cmp {l r : Expr} {op : CmpOp} {pos : Pos} {a c : V} {q : Bool} (x : Ev w H n env ρ o₀ l a o₁) (y : Ev w H n env ρ o₁ r c o₂) (h : Op2 w H n env ρ o₂ (compareOp op) a c (.raw (.bool q))) (hm : behindInMarks op r = false := by rfl) : Te w H n env ρ o₀ (.Compare l [op] [r] pos) q o₂ :=
  .mk (y.1.trans x.1) fun A b s rm L => wpAny_isTrue_Compare1 (wpAny_mono (x.then2 y h rm L) (fun u s₁ p => wpAny_mono p (fun v s₂ p => wpAny_mono p (fun z s₃ ⟨b₃, st, L₃, r₃⟩ => by
    cases r₃
    exact wpAny_truthy_bool ⟨rfl, b₃, st, L₃⟩) fun _ _ f => f) fun _ _ f => f) fun _ _ f => f) hm
theorem Te.plain {e : Expr} {a : V} {q : Bool} (x : Ev w H n env ρ o₀ e a o₁) (h : Tru w H n env ρ o₁ a q) (he : isTrue e env (eval e env) = (do let v ← eval e env; standAt e.pos; holding [v] (truthy v)) := by rfl) : Te w H n env ρ o₀ e q o₁ :=
  .mk x.1 fun A b s rm L => isTrue_plain (wpAny_mono (x.run rm L) (fun u s₁ ⟨b₁, st, L₁, r₁⟩ => wpAny_mono (h.run rm L₁ r₁) (fun _ _ p => p.pre st x.1) fun _ _ f => f) fun _ _ f => f) he

/-- and, or: as lists of tests; whole is never asked -/
noncomputable def Ta (w : World) (H : Heap) (n : Nat) (env : Env) (ρ : Names) (own : Own) (op : BoolOp) (es : List Expr) (r : Bool) (own' : Own) : Prop :=
  own'.map (·.1) = own.map (·.1) ∧ ∀ A b s pos whole, Rm n A → Loc w H env b s.heap ρ own → wpAny (Md w) A (isTrue (.BoolOp op es pos) env whole) (Pb w H env ρ own b s own' r) NoE s
theorem Ta.te {op : BoolOp} {es : List Expr} {q : Bool} {pos : Pos} (x : Ta w H n env ρ o₀ op es q o₁) : Te w H n env ρ o₀ (.BoolOp op es pos) q o₁ := ⟨x.1, fun A b s rm L => x.2 A b s pos _ rm L⟩
theorem Ta.andNil : Ta w H n env ρ o₀ .And [] true o₀ := ⟨rfl, fun _ _ s _ _ _ L => isTrue_and_nil ⟨rfl, _, Step.refl, L⟩⟩
theorem Ta.orNil : Ta w H n env ρ o₀ .Or [] false o₀ := ⟨rfl, fun _ _ s _ _ _ L => isTrue_or_nil ⟨rfl, _, Step.refl, L⟩⟩
theorem Ta.andT {e : Expr} {es : List Expr} {q : Bool} (x : Te w H n env ρ o₀ e true o₁) (y : Ta w H n env ρ o₁ .And es q o₂) : Ta w H n env ρ o₀ .And (e :: es) q o₂ :=
  ⟨y.1.trans x.1, fun A b s pos whole rm L => isTrue_and (wpAny_mono (x.run rm L) (fun v s₁ ⟨e, b₁, st, L₁⟩ => by subst e; exact wpAny_mono (y.2 A b₁ s₁ pos whole rm L₁) (fun _ _ p => p.pre st x.1) fun _ _ f => f) fun _ _ f => f)⟩
theorem Ta.andF {e : Expr} {es : List Expr} (x : Te w H n env ρ o₀ e false o₁) : Ta w H n env ρ o₀ .And (e :: es) false o₁ :=
  ⟨x.1, fun A b s pos whole rm L => isTrue_and (wpAny_mono (x.run rm L) (fun v s₁ ⟨e, b₁, st, L₁⟩ => by subst e; exact ⟨rfl, b₁, st, L₁⟩) fun _ _ f => f)⟩
theorem Ta.orF {e : Expr} {es : List Expr} {q : Bool} (x : Te w H n env ρ o₀ e false o₁) (y : Ta w H n env ρ o₁ .Or es q o₂) : Ta w H n env ρ o₀ .Or (e :: es) q o₂ :=
  ⟨y.1.trans x.1, fun A b s pos whole rm L => isTrue_or (wpAny_mono (x.run rm L) (fun v s₁ ⟨e, b₁, st, L₁⟩ => by subst e; exact wpAny_mono (y.2 A b₁ s₁ pos whole rm L₁) (fun _ _ p => p.pre st x.1) fun _ _ f => f) fun _ _ f => f)⟩
theorem Ta.orT {e : Expr} {es : List Expr} (x : Te w H n env ρ o₀ e true o₁) : Ta w H n env ρ o₀ .Or (e :: es) true o₁ :=
  ⟨x.1, fun A b s pos whole rm L => isTrue_or (wpAny_mono (x.run rm L) (fun v s₁ ⟨e, b₁, st, L₁⟩ => by subst e; exact ⟨rfl, b₁, st, L₁⟩) fun _ _ f => f)⟩

theorem Ev.ifT {t b e : Expr} {pos : Pos} {d : V} (x : Te w H n env ρ o₀ t true o₁) (y : Ev w H n env ρ o₁ b d o₂) : Ev w H n env ρ o₀ (.IfExp t b e pos) d o₂ :=
  .mk (y.1.trans x.1) fun A b s rm L => wpAny_IfExp (wpAny_mono (x.run rm L) (fun v s₁ ⟨e, b₁, st, L₁⟩ => by subst e; exact wpAny_mono (y.run rm L₁) (fun _ _ p => p.pre st x.1) fun _ _ f => f) fun _ _ f => f)
theorem Ev.ifF {t b e : Expr} {pos : Pos} {d : V} (x : Te w H n env ρ o₀ t false o₁) (y : Ev w H n env ρ o₁ e d o₂) : Ev w H n env ρ o₀ (.IfExp t b e pos) d o₂ :=
  .mk (y.1.trans x.1) fun A b s rm L => wpAny_IfExp (wpAny_mono (x.run rm L) (fun v s₁ ⟨e, b₁, st, L₁⟩ => by subst e; exact wpAny_mono (y.run rm L₁) (fun _ _ p => p.pre st x.1) fun _ _ f => f) fun _ _ f => f)

/-- and of two, by value -/
theorem Ev.andT {e f : Expr} {pos : Pos} {a d : V} (x : Ev w H n env ρ o₀ e a o₁) (t : Tru w H n env ρ o₁ a true) (y : Ev w H n env ρ o₁ f d o₂) : Ev w H n env ρ o₀ (.BoolOp .And [e, f] pos) d o₂ :=
  .mk (y.1.trans x.1) fun A b s rm L => BoolOp_and (wpAny_mono (x.run rm L) (fun u s₁ ⟨b₁, st, L₁, r₁⟩ => wpAny_mono (t.run rm L₁ r₁) (fun c s₂ ⟨e, b₂, st₂, L₂⟩ => by
    subst e
    exact BoolOp_one (wpAny_mono (y.run rm L₂) (fun _ _ p => (p.pre st₂ rfl).pre st x.1) fun _ _ f => f)) fun _ _ f => f) fun _ _ f => f)
theorem Ev.andF {e f : Expr} {pos : Pos} {a : V} (x : Ev w H n env ρ o₀ e a o₁) (t : Tru w H n env ρ o₁ a false) : Ev w H n env ρ o₀ (.BoolOp .And [e, f] pos) a o₁ :=
  .mk x.1 fun A b s rm L => BoolOp_and (wpAny_mono (x.run rm L) (fun u s₁ ⟨b₁, st, L₁, r₁⟩ => wpAny_mono (t.run rm L₁ r₁) (fun c s₂ ⟨e, b₂, st₂, L₂⟩ => by
    subst e
    exact Pt.pre st x.1 ⟨b₂, st₂, L₂, r₁.mono st₂.grow⟩) fun _ _ f => f) fun _ _ f => f)

/-- several values, one behind the other -/
noncomputable def Es (w : World) (H : Heap) (n : Nat) (env : Env) (ρ : Names) (own : Own) (es : List Expr) (ds : List V) (own' : Own) : Prop :=
  own'.map (·.1) = own.map (·.1) ∧ ∀ A b s pos, Rm n A → Loc w H env b s.heap ρ own →
    wpAny (Md w) A (spliced (backTo pos (starEach es env))) (fun vs s' => ∃ b', Step own b s b' s' ∧ Loc w H env b' s'.heap ρ own' ∧ VRs w b' ds vs) NoE s
theorem Es.nil : Es w H n env ρ o₀ [] [] o₀ := ⟨rfl, fun _ _ _ _ _ L => Calls.spliced_nil ⟨_, Step.refl, L, by simp [VRs]⟩⟩
theorem Es.cons {e : Expr} {es : List Expr} {d : V} {ds : List V} (x : Ev w H n env ρ o₀ e d o₁) (y : Es w H n env ρ o₁ es ds o₂) (hs : ∀ pos, backTo pos (starEach (e :: es) env) = (false, eval e env) :: backTo pos (starEach es env) := by intro _; rfl) :
    Es w H n env ρ o₀ (e :: es) (d :: ds) o₂ :=
  ⟨y.1.trans x.1, fun A b s pos rm L => by
    rw [hs]
    refine Calls.spliced_cons (wpAny_mono (x.run rm L) (fun v s₁ ⟨b₁, st, L₁, r₁⟩ => wpAny_mono (y.2 A b₁ s₁ pos rm L₁) (fun vs s₂ ⟨b₂, st₂, L₂, r₂⟩ => ⟨b₂, st.trans x.1 st₂, L₂, ?_⟩) fun _ _ f => f) fun _ _ f => f)
    simp only [VRs]
    exact ⟨r₁.mono st₂.grow, r₂⟩⟩

theorem vr_newTup {b : Heap} {s : Shared} {ds : List V} {vs : List Value} (sub : Le b s.heap) (r : VRs w b ds vs) :
    VR w (growH b s.heap (s.heap.push { cls := .type "tuple", data := .seq vs.toArray })) (.tup ds) (.ref s.heap.objs.size) := by
  have k : Le s.heap (s.heap.push { cls := .type "tuple", data := .seq vs.toArray }) := fun _ _ e => Heap.get?_push_of_some _ e
  simp only [VR]
  refine ⟨_, vs, rfl, ⟨_, growH_new ?_ (Heap.get?_push_size _ rfl), rfl, _, rfl⟩, r.mono (le_growH sub k)⟩
  cases e : s.heap.get? s.heap.objs.size with
  | none => rfl
  | some o => exact absurd (Heap.lt_size e) (Nat.lt_irrefl _)
theorem get_size_none (h : Heap) : h.get? h.objs.size = none := by
  cases e : h.get? h.objs.size with
  | none => rfl
  | some o => exact absurd (Heap.lt_size e) (Nat.lt_irrefl _)
theorem vr_newLst {b : Heap} {s : Shared} {ds : List V} {vs : List Value} (sub : Le b s.heap) (r : VRs w b ds vs) :
    VR w (growH b s.heap (s.heap.push { cls := .type "list", data := .seq vs.toArray })) (.lst ds) (.ref s.heap.objs.size) := by
  have k : Le s.heap (s.heap.push { cls := .type "list", data := .seq vs.toArray }) := fun _ _ e => Heap.get?_push_of_some _ e
  simp only [VR]
  exact ⟨_, vs, rfl, ⟨_, _, growH_new (get_size_none _) (Heap.get?_push_size _ rfl), rfl, rfl, rfl⟩, r.mono (le_growH sub k)⟩

theorem Ev.tuple {es : List Expr} {ds : List V} {k : Nat} {pos : Pos} (x : Es w H n env ρ o₀ es ds o₁) (hl : ds.length ≤ 1000 := by simp) : Ev w H n env ρ o₀ (.Tuple es k pos) (.tup ds) o₁ :=
  .mk x.1 fun A b s rm L => Tuple_ (wpAny_mono (x.2 A b s pos rm L) (fun vs s₁ ⟨b₁, st, L₁, r₁⟩ => by
    refine wpAny_newObj_type (Pt.pre st x.1 ⟨_, Step.pure L₁.sub (Keeps.push _ _), L₁.pure (Keeps.push _ s₁.toks), vr_newTup L₁.sub r₁⟩) ?_
    show vs.toArray.size ≤ sizeLine
    rw [List.size_toArray, r₁.length, sizeLine_eq]; (first | assumption | exact Nat.le_of_ble_eq_true rfl | exact Nat.add_le_add_left (Nat.le_of_ble_eq_true rfl) _ | exact Nat.le_trans (by assumption) (Nat.le_of_ble_eq_true rfl) | lia | omega)) fun _ _ f => f)
theorem Ev.list {es : List Expr} {ds : List V} {pos : Pos} (x : Es w H n env ρ o₀ es ds o₁) (hl : ds.length ≤ 1000 := by simp) : Ev w H n env ρ o₀ (.List es pos) (.lst ds) o₁ :=
  .mk x.1 fun A b s rm L => List_ (wpAny_mono (x.2 A b s pos rm L) (fun vs s₁ ⟨b₁, st, L₁, r₁⟩ => by
    refine wpAny_newObj_type (Pt.pre st x.1 ⟨_, Step.pure L₁.sub (Keeps.push _ _), L₁.pure (Keeps.push _ s₁.toks), vr_newLst L₁.sub r₁⟩) ?_
    show vs.toArray.size ≤ sizeLine
    rw [List.size_toArray, r₁.length, sizeLine_eq]; (first | assumption | exact Nat.le_of_ble_eq_true rfl | exact Nat.add_le_add_left (Nat.le_of_ble_eq_true rfl) _ | exact Nat.le_trans (by assumption) (Nat.le_of_ble_eq_true rfl) | lia | omega)) fun _ _ f => f)

theorem Ev.sub {value slice : Expr} {pos : Pos} {a c d : V} (x : Ev w H n env ρ o₀ value a o₁) (y : Ev w H n env ρ o₁ slice c o₂) (h : Op2 w H n env ρ o₂ (subscriptTail value slice) a c d) : Ev w H n env ρ o₀ (.Subscript value slice pos) d o₂ :=
  .mk (y.1.trans x.1) fun _ _ _ rm L => Subscript_ (x.then2 y h rm L)
end
end Mine
end
section
open PySem PySem.W PyProof.Rows PySem.MeetsSeq PySem.SeqAt
namespace Mine

section
variable {w : World} {H : Heap} {n : Nat} {env : Env} {ρ : Names} {o₀ o₁ o₂ o₃ : Own}

/-- a list to be read: frozen, or in hand -/
noncomputable def AsL (own : Own) (d : V) (ds : List V) : Prop := d = .lst ds ∨ ∃ a, d = .raw (.ref a) ∧ (a, O.list ds) ∈ own
noncomputable def AsD (own : Own) (d : V) (kvs : List (Str × V)) : Prop := d = .dct kvs ∨ ∃ a, d = .raw (.ref a) ∧ (a, O.dict kvs) ∈ own
theorem AsL.lst {own : Own} {ds : List V} : AsL own (.lst ds) ds := .inl rfl
theorem AsD.dct {own : Own} {kvs : List (Str × V)} : AsD own (.dct kvs) kvs := .inl rfl
theorem AsL.own {own : Own} {ds : List V} {a : Addr} (h : (a, O.list ds) ∈ own) : AsL own (.raw (.ref a)) ds := .inr ⟨a, rfl, h⟩
theorem AsD.own {own : Own} {kvs : List (Str × V)} {a : Addr} (h : (a, O.dict kvs) ∈ own) : AsD own (.raw (.ref a)) kvs := .inr ⟨a, rfl, h⟩

theorem seeL {b : Heap} {s : Shared} {d : V} {ds : List V} {u : Value} (L : Loc w H env b s.heap ρ o₀) (r : VR w b d u) (h : AsL o₀ d ds) : ∃ a vs, u = .ref a ∧ s.heap.IsList a (List.toArray vs) ∧ VRs w b ds vs := by
  rcases h with rfl | ⟨a, rfl, hm⟩
  · simp only [VR] at r
    obtain ⟨a, vs, e, hl, hs⟩ := r
    exact ⟨a, vs, e, (hl.keeps L.sub).isList, hs⟩
  · simp only [VR] at r
    obtain ⟨vs, hl, hs⟩ := L.ow _ hm
    exact ⟨a, vs, r, hl.isList, hs⟩
theorem seeD {b : Heap} {s : Shared} {d : V} {kvs : List (Str × V)} {u : Value} (L : Loc w H env b s.heap ρ o₀) (r : VR w b d u) (h : AsD o₀ d kvs) : ∃ a kv, u = .ref a ∧ (a == sysModules) = false ∧ s.heap.DictOf (SK w) a kv ∧ VRp w b kvs kv := by
  rcases h with rfl | ⟨a, rfl, hm⟩
  · simp only [VR] at r
    obtain ⟨a, kv, e, hm, hd, hs⟩ := r
    exact ⟨a, kv, e, hm, hd.keep L.sub, hs⟩
  · simp only [VR] at r
    obtain ⟨kv, h1, hd, hs⟩ := L.ow _ hm
    exact ⟨a, kv, r, h1, hd, hs⟩
theorem seeT {b : Heap} {s : Shared} {ds : List V} {u : Value} (L : Loc w H env b s.heap ρ o₀) (r : VR w b (.tup ds) u) : ∃ a vs, u = .ref a ∧ IsTup s.heap a (List.toArray vs) ∧ VRs w b ds vs := by
  simp only [VR] at r
  obtain ⟨a, vs, e, ht, hs⟩ := r
  exact ⟨a, vs, e, ht.keeps L.sub, hs⟩

/- items -/
theorem Op2.subTup {value slice : Expr} {ds : List V} {k : Int} {d : V} (h0 : 0 ≤ k) (hx : ds[k.toNat]? = some d) (hz : k < 2 ^ 62 := by first | decide | (first | assumption | exact Nat.le_of_ble_eq_true rfl | exact Nat.add_le_add_left (Nat.le_of_ble_eq_true rfl) _ | exact Nat.le_trans (by assumption) (Nat.le_of_ble_eq_true rfl) | lia | omega))
    (hs : ∀ t u v, subscripted slice false (.ref t) (.int u v) = operate [.ref t, .int u v] (getItem (.ref t) (.int u v)) := by intros; rfl) : Op2 w H n env ρ o₀ (subscriptTail value slice) (.tup ds) (.int k) d :=
  fun A b s u v rm L ru rv => by
    obtain ⟨a, vs, rfl, ht, hr⟩ := seeT L ru
    obtain ⟨t, rfl⟩ := rv
    obtain ⟨x, hx', rx⟩ := hr.get hx
    have hlt : k.toNat < vs.length := (List.getElem?_eq_some_iff.mp hx').1
    refine item_tupleT (j := k.toNat) ht (by (first | assumption | exact Nat.le_of_ble_eq_true rfl | exact Nat.add_le_add_left (Nat.le_of_ble_eq_true rfl) _ | exact Nat.le_trans (by assumption) (Nat.le_of_ble_eq_true rfl) | lia | omega)) (by (first | assumption | exact Nat.le_of_ble_eq_true rfl | exact Nat.add_le_add_left (Nat.le_of_ble_eq_true rfl) _ | exact Nat.le_trans (by assumption) (Nat.le_of_ble_eq_true rfl) | lia | omega)) ?_ hx' ⟨Keeps.refl, rx.up L.sub Keeps.refl⟩ (hs _ _ _)
    have e1 : ¬ k < 0 := by (first | assumption | exact Nat.le_of_ble_eq_true rfl | exact Nat.add_le_add_left (Nat.le_of_ble_eq_true rfl) _ | exact Nat.le_trans (by assumption) (Nat.le_of_ble_eq_true rfl) | lia | omega)
    have e2 : k < (vs.length : Int) := by (first | assumption | exact Nat.le_of_ble_eq_true rfl | exact Nat.add_le_add_left (Nat.le_of_ble_eq_true rfl) _ | exact Nat.le_trans (by assumption) (Nat.le_of_ble_eq_true rfl) | lia | omega)
    simp [seqIndex?, e1, e2, h0]

theorem Op2.subLst {value slice : Expr} {d' : V} {ds : List V} {k : Int} {d : V} (hl : AsL o₀ d' ds) (h0 : 0 ≤ k) (hx : ds[k.toNat]? = some d) (hz : k < 2 ^ 62 := by first | decide | (first | assumption | exact Nat.le_of_ble_eq_true rfl | exact Nat.add_le_add_left (Nat.le_of_ble_eq_true rfl) _ | exact Nat.le_trans (by assumption) (Nat.le_of_ble_eq_true rfl) | lia | omega))
    (hs : ∀ t u v, subscripted slice false (.ref t) (.int u v) = operate [.ref t, .int u v] (getItem (.ref t) (.int u v)) := by intros; rfl) : Op2 w H n env ρ o₀ (subscriptTail value slice) d' (.int k) d :=
  fun A b s u v rm L ru rv => by
    obtain ⟨a, vs, rfl, ht, hr⟩ := seeL L ru hl
    obtain ⟨t, rfl⟩ := rv
    obtain ⟨x, hx', rx⟩ := hr.get hx
    exact tail_any ht.typeIs slot_list_getitem.lookup (wpAny_getItem_list ht h0 (by (first | assumption | exact Nat.le_of_ble_eq_true rfl | exact Nat.add_le_add_left (Nat.le_of_ble_eq_true rfl) _ | exact Nat.le_trans (by assumption) (Nat.le_of_ble_eq_true rfl) | lia | omega)) (by simpa using hx') ⟨Keeps.refl, rx.up L.sub Keeps.refl⟩) (hs _ _ _)

theorem Op2.subDct {value slice : Expr} {d' : V} {kvs : List (Str × V)} {x : Str} {d : V} (hl : AsD o₀ d' kvs) (hx : lookV kvs x = some d)
    (hs : ∀ t u v, subscripted slice false (.ref t) (.str u v) = operate [.ref t, .str u v] (getItem (.ref t) (.str u v)) := by intros; rfl) : Op2 w H n env ρ o₀ (subscriptTail value slice) d' (.str x) d :=
  fun A b s u v rm L ru rv => by
    obtain ⟨a, kv, rfl, hm, hd, hr⟩ := seeD L ru hl
    obtain ⟨t, rfl⟩ := rv
    obtain ⟨y, hy, ry⟩ := hr.find hx
    exact tail_any hd.typeIs slot_dict_getitem.lookup (wpAny_getItem_of (strKind_is _ _ _ _) hd.mapOf hy ⟨Keeps.tok _, ry.up L.sub (Keeps.tok _)⟩) (hs _ _ _)

/- ints -/
theorem Op2.addInt {x y : Int} : Op2 w H n env ρ o₀ (binaryOp .Add) (.int x) (.int y) (.int (x + y)) := fun A b s u v rm L ⟨_, hu⟩ ⟨_, hv⟩ => by subst hu hv; exact PyProof.Rows.add_int ⟨Keeps.tok _, _, rfl⟩
theorem Op2.subInt {x y : Int} : Op2 w H n env ρ o₀ (binaryOp .Sub) (.int x) (.int y) (.int (x - y)) := fun A b s u v rm L ⟨_, hu⟩ ⟨_, hv⟩ => by subst hu hv; exact PyProof.Rows.sub_int ⟨Keeps.tok _, _, rfl⟩
theorem Op2.mulInt {x y : Int} (h : IntMulOk x y) : Op2 w H n env ρ o₀ (binaryOp .Mult) (.int x) (.int y) (.int (x * y)) := fun A b s u v rm L ⟨_, hu⟩ ⟨_, hv⟩ => by subst hu hv; exact PyProof.Rows.mul_int ⟨Keeps.tok _, _, rfl⟩ h
theorem Op2.modInt {x y : Int} (h : y ≠ 0) : Op2 w H n env ρ o₀ (binaryOp .Mod) (.int x) (.int y) (.int (x.fmod y)) := fun A b s u v rm L ⟨_, hu⟩ ⟨_, hv⟩ => by subst hu hv; exact PyProof.Rows.mod_int' h ⟨Keeps.tok _, _, rfl⟩
theorem Op2.divInt {x y : Int} (h : y ≠ 0) (hp : Builtin.divisionGoesByPylong x y = false) : Op2 w H n env ρ o₀ (binaryOp .FloorDiv) (.int x) (.int y) (.int (x.fdiv y)) := fun A b s u v rm L ⟨_, hu⟩ ⟨_, hv⟩ => by subst hu hv; exact PyProof.Rows.floordiv_int h ⟨Keeps.tok _, _, rfl⟩ (.inl hp)
theorem Op2.eqInt {x y : Int} : Op2 w H n env ρ o₀ (compareOp .Eq) (.int x) (.int y) (.raw (.bool (x == y))) := fun A b s u v rm L ⟨_, hu⟩ ⟨_, hv⟩ => by subst hu hv; exact PyProof.Rows.eq_int ⟨Keeps.refl, rfl⟩
theorem Op2.neInt {x y : Int} : Op2 w H n env ρ o₀ (compareOp .NotEq) (.int x) (.int y) (.raw (.bool (x != y))) := fun A b s u v rm L ⟨_, hu⟩ ⟨_, hv⟩ => by subst hu hv; exact PyProof.Rows.ne_int ⟨Keeps.refl, rfl⟩
theorem Op2.ltInt {x y : Int} : Op2 w H n env ρ o₀ (compareOp .Lt) (.int x) (.int y) (.raw (.bool (decide (x < y)))) := fun A b s u v rm L ⟨_, hu⟩ ⟨_, hv⟩ => by subst hu hv; exact PyProof.Rows.lt_int ⟨Keeps.refl, rfl⟩
theorem Op2.gtInt {x y : Int} : Op2 w H n env ρ o₀ (compareOp .Gt) (.int x) (.int y) (.raw (.bool (decide (y < x)))) := fun A b s u v rm L ⟨_, hu⟩ ⟨_, hv⟩ => by subst hu hv; exact PyProof.Rows.gt_int ⟨Keeps.refl, rfl⟩
theorem Op2.leInt {x y : Int} : Op2 w H n env ρ o₀ (compareOp .LtE) (.int x) (.int y) (.raw (.bool (decide (x ≤ y)))) := fun A b s u v rm L ⟨_, hu⟩ ⟨_, hv⟩ => by subst hu hv; exact PyProof.Rows.le_int ⟨Keeps.refl, rfl⟩
theorem Op2.eqStr {x y : Str} : Op2 w H n env ρ o₀ (compareOp .Eq) (.str x) (.str y) (.raw (.bool (x == y))) := fun A b s u v rm L ⟨_, hu⟩ ⟨_, hv⟩ => by subst hu hv; exact PyProof.Rows.eq_str ⟨Keeps.refl, rfl⟩
theorem Op2.neStr {x y : Str} : Op2 w H n env ρ o₀ (compareOp .NotEq) (.str x) (.str y) (.raw (.bool (x != y))) := fun A b s u v rm L ⟨_, hu⟩ ⟨_, hv⟩ => by subst hu hv; exact PyProof.Rows.ne_str ⟨Keeps.refl, rfl⟩
theorem Op2.neBool {x y : Bool} : Op2 w H n env ρ o₀ (compareOp .NotEq) (.raw (.bool x)) (.raw (.bool y)) (.raw (.bool (x != y))) := fun A b s u v rm L hu hv => by cases hu; cases hv; exact PyProof.Rows.ne_bool ⟨Keeps.refl, rfl⟩

/- an empty one on the right -/
theorem Op2.eqTupNil {ds : List V} : Op2 w H n env ρ o₀ (compareOp .Eq) (.tup ds) (.tup []) (.raw (.bool ds.isEmpty)) := fun A b s u v rm L hu hv => by
  obtain ⟨a, vs, rfl, ht, hr⟩ := seeT L hu
  obtain ⟨c, us, rfl, hc, hq⟩ := seeT L hv
  have hl := hr.length
  have hl' : us.length = 0 := hq.length
  refine eq_tupleAt (e := fun _ => true) ht hc rm.units (fun j _ h2 => by simp [hl'] at h2) ⟨Keeps.refl, ?_⟩
  show _ = _
  cases ds <;> simp_all
theorem Op2.neTupNil {ds : List V} : Op2 w H n env ρ o₀ (compareOp .NotEq) (.tup ds) (.tup []) (.raw (.bool (!ds.isEmpty))) := fun A b s u v rm L hu hv => by
  obtain ⟨a, vs, rfl, ht, hr⟩ := seeT L hu
  obtain ⟨c, us, rfl, hc, hq⟩ := seeT L hv
  have hl := hr.length
  have hl' : us.length = 0 := hq.length
  refine cmp_ofNotEq (RcNeAt.tuples (e := fun _ => true) ht hc rm.units (fun j _ h2 => by simp [hl'] at h2) _ _ _ _ ⟨Keeps.refl, ?_⟩)
  show _ = _
  cases ds <;> simp_all
theorem Op2.eqLstNil {d : V} {ds : List V} (h : AsL o₀ d ds) : Op2 w H n env ρ o₀ (compareOp .Eq) d (.lst []) (.raw (.bool ds.isEmpty)) := fun A b s u v rm L hu hv => by
  obtain ⟨a, vs, rfl, ht, hr⟩ := seeL L hu h
  obtain ⟨c, us, rfl, hc, hq⟩ := seeL L hv .lst
  have hl := hr.length
  have hl' : us.length = 0 := hq.length
  cases ds with
  | nil =>
    have : vs.length = 0 := hl
    refine eq_listAt (e := fun _ => true) ht hc (by simp [this, hl']) rm.units (fun j _ h2 => by simp [hl'] at h2) ⟨Keeps.refl, ?_⟩
    show _ = _
    simp
  | cons d ds =>
    exact eq_list_lengthsAt ht hc (by simp [hl, hl']) rm.units ⟨Keeps.refl, rfl⟩
theorem Op2.neLstNil {d : V} {ds : List V} (h : AsL o₀ d ds) : Op2 w H n env ρ o₀ (compareOp .NotEq) d (.lst []) (.raw (.bool (!ds.isEmpty))) := fun A b s u v rm L hu hv => by
  obtain ⟨a, vs, rfl, ht, hr⟩ := seeL L hu h
  obtain ⟨c, us, rfl, hc, hq⟩ := seeL L hv .lst
  have hl := hr.length
  have hl' : us.length = 0 := hq.length
  cases ds with
  | nil =>
    have : vs.length = 0 := hl
    refine cmp_ofNotEq (RcNeAt.lists (e := fun _ => true) ht hc (by simp [this, hl']) rm.units (fun j _ h2 => by simp [hl'] at h2) _ _ _ _ ⟨Keeps.refl, ?_⟩)
    show _ = _
    simp [this]
  | cons d ds =>
    exact cmp_ofNotEq (RcNeAt.lists_lengths ht hc (by simp [hl, hl']) rm.units _ _ _ _ ⟨Keeps.refl, rfl⟩)

/- membership -/
theorem EqAt.str {A : Around} {s : Shared} {x y : Str} {t u : Tok} : EqAt A s (.str x t) (.str y u) (decide (x = y)) := fun _ _ _ _ h => wpAny_eqBool_str h
theorem EqAt.int {A : Around} {s : Shared} {x y : Int} {t u : Tok} : EqAt A s (.int x t) (.int y u) (x == y) := fun _ _ _ _ h => wpAny_eqBool_int h

noncomputable def isStrV (x : Str) : Value → Bool
  | .str y _ => decide (y = x)
  | _ => false
noncomputable def isIntV (x : Int) : Value → Bool
  | .int y _ => y == x
  | _ => false
theorem VRs.anyStr {b : Heap} {x : Str} : ∀ {xs : List Str} {vs : List Value}, VRs w b (xs.map .str) vs → vs.any (isStrV x) = xs.contains x
  | [], [], _ => rfl
  | y :: xs, v :: vs, h => by
    simp only [List.map_cons, VRs, VR] at h
    obtain ⟨⟨t, rfl⟩, h2⟩ := h
    simp only [List.any_cons, VRs.anyStr h2, List.contains_cons, isStrV]
    congr 1
    by_cases hxy : y = x
    · subst hxy; simp
    · simp [hxy, Ne.symm hxy]
  | [], _ :: _, h => by simp [VRs] at h
  | _ :: _, [], h => by simp [VRs] at h
theorem VRs.anyInt {b : Heap} {x : Int} : ∀ {xs : List Int} {vs : List Value}, VRs w b (xs.map .int) vs → vs.any (isIntV x) = xs.contains x
  | [], [], _ => rfl
  | y :: xs, v :: vs, h => by
    simp only [List.map_cons, VRs, VR] at h
    obtain ⟨⟨t, rfl⟩, h2⟩ := h
    simp only [List.any_cons, VRs.anyInt h2, List.contains_cons, isIntV]
    have e : (y == x) = (x == y) := by
      by_cases hxy : y = x
      · subst hxy; rfl
      · rw [beq_eq_false_iff_ne.mpr hxy, beq_eq_false_iff_ne.mpr (Ne.symm hxy)]
    rw [e]
  | [], _ :: _, h => by simp [VRs] at h
  | _ :: _, [], h => by simp [VRs] at h
theorem VRs.memStr {b : Heap} {xs : List Str} {vs : List Value} {v : Value} (h : VRs w b (xs.map .str) vs) (hv : v ∈ vs) : ∃ y t, v = .str y t := by
  obtain ⟨i, hi⟩ := List.mem_iff_getElem?.mp hv
  obtain ⟨d, hd, r⟩ := h.get' hi
  rw [List.getElem?_map] at hd
  obtain ⟨y, _, rfl⟩ := Option.map_eq_some_iff.mp hd
  obtain ⟨t, rfl⟩ := r
  exact ⟨y, t, rfl⟩
theorem VRs.memInt {b : Heap} {xs : List Int} {vs : List Value} {v : Value} (h : VRs w b (xs.map .int) vs) (hv : v ∈ vs) : ∃ y t, v = .int y t := by
  obtain ⟨i, hi⟩ := List.mem_iff_getElem?.mp hv
  obtain ⟨d, hd, r⟩ := h.get' hi
  rw [List.getElem?_map] at hd
  obtain ⟨y, _, rfl⟩ := Option.map_eq_some_iff.mp hd
  obtain ⟨t, rfl⟩ := r
  exact ⟨y, t, rfl⟩

theorem Op2.inTupStr {x : Str} {xs : List Str} : Op2 w H n env ρ o₀ (compareOp .In) (.str x) (.tup (xs.map .str)) (.raw (.bool (xs.contains x))) := fun A b s u v rm L hu hv => by
  obtain ⟨t, rfl⟩ := hu
  obtain ⟨c, us, rfl, hc, hq⟩ := seeT L hv
  refine in_tupleAt (isStrV x) hc (fun y hy => ?_) ⟨Keeps.refl, ?_⟩
  · obtain ⟨z, t', rfl⟩ := hq.memStr (by simpa using hy); exact EqAt.str
  · show _ = _
    rw [← hq.anyStr]; simp
theorem Op2.inTupInt {x : Int} {xs : List Int} : Op2 w H n env ρ o₀ (compareOp .In) (.int x) (.tup (xs.map .int)) (.raw (.bool (xs.contains x))) := fun A b s u v rm L hu hv => by
  obtain ⟨t, rfl⟩ := hu
  obtain ⟨c, us, rfl, hc, hq⟩ := seeT L hv
  refine in_tupleAt (isIntV x) hc (fun y hy => ?_) ⟨Keeps.refl, ?_⟩
  · obtain ⟨z, t', rfl⟩ := hq.memInt (by simpa using hy); exact EqAt.int
  · show _ = _
    rw [← hq.anyInt]; simp
theorem Op2.inLstInt {x : Int} {d : V} {xs : List Int} (h : AsL o₀ d (xs.map .int)) : Op2 w H n env ρ o₀ (compareOp .In) (.int x) d (.raw (.bool (xs.contains x))) := fun A b s u v rm L hu hv => by
  obtain ⟨t, rfl⟩ := hu
  obtain ⟨c, us, rfl, hc, hq⟩ := seeL L hv h
  refine in_listAt (isIntV x) hc (fun y hy => ?_) ⟨Keeps.refl, ?_⟩
  · obtain ⟨z, t', rfl⟩ := hq.memInt (by simpa using hy); exact EqAt.int
  · show _ = _
    rw [← hq.anyInt]; simp
theorem Op2.notInLstInt {x : Int} {d : V} {xs : List Int} (h : AsL o₀ d (xs.map .int)) : Op2 w H n env ρ o₀ (compareOp .NotIn) (.int x) d (.raw (.bool (!xs.contains x))) := fun A b s u v rm L hu hv => by
  obtain ⟨t, rfl⟩ := hu
  obtain ⟨c, us, rfl, hc, hq⟩ := seeL L hv h
  refine notIn_listAt (isIntV x) hc (fun y hy => ?_) ⟨Keeps.refl, ?_⟩
  · obtain ⟨z, t', rfl⟩ := hq.memInt (by simpa using hy); exact EqAt.int
  · show _ = _
    rw [← hq.anyInt]; simp
theorem Op2.notInLstStr {x : Str} {d : V} {xs : List Str} (h : AsL o₀ d (xs.map .str)) : Op2 w H n env ρ o₀ (compareOp .NotIn) (.str x) d (.raw (.bool (!xs.contains x))) := fun A b s u v rm L hu hv => by
  obtain ⟨t, rfl⟩ := hu
  obtain ⟨c, us, rfl, hc, hq⟩ := seeL L hv h
  refine notIn_listAt (isStrV x) hc (fun y hy => ?_) ⟨Keeps.refl, ?_⟩
  · obtain ⟨z, t', rfl⟩ := hq.memStr (by simpa using hy); exact EqAt.str
  · show _ = _
    rw [← hq.anyStr]; simp
theorem VRp.has {b : Heap} {x : Str} {ds : List (Str × V)} {vs : List (Str × Value)} (h : VRp w b ds vs) : (valueAt vs x).isSome = (lookV ds x).isSome := by
  cases e : lookV ds x with
  | none => rw [h.miss e]; rfl
  | some d => obtain ⟨v, hv, _⟩ := h.find e; rw [hv]; rfl
theorem Op2.inDct {x : Str} {d : V} {kvs : List (Str × V)} (h : AsD o₀ d kvs) : Op2 w H n env ρ o₀ (compareOp .In) (.str x) d (.raw (.bool (lookV kvs x).isSome)) := fun A b s u v rm L hu hv => by
  obtain ⟨t, rfl⟩ := hu
  obtain ⟨c, kv, rfl, hm, hd, hq⟩ := seeD L hv h
  exact wpAny_in_of (strKind_is _ _ _ _) hm hd.mapOf ⟨Keeps.tok _, congrArg Value.bool hq.has⟩
theorem Op2.notInDct {x : Str} {d : V} {kvs : List (Str × V)} (h : AsD o₀ d kvs) : Op2 w H n env ρ o₀ (compareOp .NotIn) (.str x) d (.raw (.bool (!(lookV kvs x).isSome))) := fun A b s u v rm L hu hv => by
  obtain ⟨t, rfl⟩ := hu
  obtain ⟨c, kv, rfl, hm, hd, hq⟩ := seeD L hv h
  exact wpAny_notIn_of (strKind_is _ _ _ _) hm hd.mapOf ⟨Keeps.tok _, congrArg (fun x => Value.bool (!x)) hq.has⟩

/- sums of two -/
theorem Op2.addTup {ds es : List V} (hz : ds.length + es.length ≤ 10000 := by first | decide | (first | assumption | exact Nat.le_of_ble_eq_true rfl | exact Nat.add_le_add_left (Nat.le_of_ble_eq_true rfl) _ | exact Nat.le_trans (by assumption) (Nat.le_of_ble_eq_true rfl) | lia | omega)) : Op2 w H n env ρ o₀ (binaryOp .Add) (.tup ds) (.tup es) (.tup (ds ++ es)) := fun A b s u v rm L hu hv => by
  obtain ⟨a, vs, rfl, ht, hr⟩ := seeT L hu
  obtain ⟨c, us, rfl, hc, hq⟩ := seeT L hv
  have h1 := hr.length
  have h2 := hq.length
  obtain ⟨⟨cls, dd, data, sl⟩, ho, hcl, m, hd⟩ := id ht
  obtain ⟨⟨cls2, dd2, data2, sl2⟩, ho2, hc2, n2, hd2⟩ := id hc
  simp only at hcl hd hc2 hd2
  subst hcl hd hc2 hd2
  have e : vs.toArray ++ us.toArray = (vs ++ us).toArray := by simp
  by_cases hv' : vs = []
  · subst hv'
    have : ds = [] := List.length_eq_zero_iff.mp h1.symm
    subst this
    exact concat_meets ⟨_, ho, rfl⟩ ⟨_, ho2, rfl⟩ noFill_tuple_add seq_tuple_add PySem.F.slot_tuple_add PySem.F.entry_tuple_add (PySem.F.args_tuple_add_2 _ _)
      (tuple_addW0 a c _ us.toArray m n2 dd dd2 sl sl2 (by simp)) ⟨ho, ho2, Keeps.refl, hv.up L.sub Keeps.refl⟩
  · by_cases hw : us = []
    · subst hw
      have : es = [] := List.length_eq_zero_iff.mp h2.symm
      subst this
      rw [List.append_nil]
      exact concat_meets ⟨_, ho, rfl⟩ ⟨_, ho2, rfl⟩ noFill_tuple_add seq_tuple_add PySem.F.slot_tuple_add PySem.F.entry_tuple_add (PySem.F.args_tuple_add_2 _ _)
        (tuple_addW1 a c vs.toArray _ m n2 dd dd2 sl sl2 (by simpa using hv') (by simp)) ⟨ho, ho2, Keeps.refl, hu.up L.sub Keeps.refl⟩
    · refine concat_meets ⟨_, ho, rfl⟩ ⟨_, ho2, rfl⟩ noFill_tuple_add seq_tuple_add PySem.F.slot_tuple_add PySem.F.entry_tuple_add (PySem.F.args_tuple_add_2 _ _)
        (tuple_addW2 a c vs.toArray us.toArray m n2 dd dd2 sl sl2 (by simpa using hv') (by simpa using hw) (by rw [List.size_toArray, List.size_toArray, sizeLine_eq]; (first | assumption | exact Nat.le_of_ble_eq_true rfl | exact Nat.add_le_add_left (Nat.le_of_ble_eq_true rfl) _ | exact Nat.le_trans (by assumption) (Nat.le_of_ble_eq_true rfl) | lia | omega))) ⟨ho, ho2, ?_⟩
      rw [e]
      exact ⟨Keeps.push _ s.toks, vr_newTup L.sub (hr.append hq)⟩
theorem Op2.addLst {d d' : V} {ds es : List V} (hd : AsL o₀ d ds) (he : AsL o₀ d' es) (hz : ds.length + es.length ≤ 10000 := by first | decide | (first | assumption | exact Nat.le_of_ble_eq_true rfl | exact Nat.add_le_add_left (Nat.le_of_ble_eq_true rfl) _ | exact Nat.le_trans (by assumption) (Nat.le_of_ble_eq_true rfl) | lia | omega)) : Op2 w H n env ρ o₀ (binaryOp .Add) d d' (.lst (ds ++ es)) := fun A b s u v rm L hu hv => by
  obtain ⟨a, vs, rfl, ht, hr⟩ := seeL L hu hd
  obtain ⟨c, us, rfl, hc, hq⟩ := seeL L hv he
  have h1 := hr.length
  have h2 := hq.length
  obtain ⟨⟨cls, dd, data, sl⟩, ho, hcl, m, hd⟩ := id ht
  obtain ⟨⟨cls2, dd2, data2, sl2⟩, ho2, hc2, n2, hd2⟩ := id hc
  simp only at hcl hd hc2 hd2
  subst hcl hd hc2 hd2
  have e : vs.toArray ++ us.toArray = (vs ++ us).toArray := by simp
  refine concat_meets ⟨_, ho, rfl⟩ ⟨_, ho2, rfl⟩ noFill_list_add seq_list_add PySem.F.slot_list_add PySem.F.entry_list_add (PySem.F.args_list_add_2 _ _)
    (list_addW a c vs.toArray us.toArray m n2 dd dd2 sl sl2 (by rw [List.size_toArray, List.size_toArray, sizeLine_eq]; (first | assumption | exact Nat.le_of_ble_eq_true rfl | exact Nat.add_le_add_left (Nat.le_of_ble_eq_true rfl) _ | exact Nat.le_trans (by assumption) (Nat.le_of_ble_eq_true rfl) | lia | omega))) ⟨ho, ho2, ?_⟩
  rw [e]
  exact ⟨Keeps.push _ s.toks, vr_newLst L.sub (hr.append hq)⟩
end
end Mine
end
section
open PySem PySem.W PyProof.Rows PySem.MeetsSeq PySem.SeqAt
namespace Mine

structure Bas (w : World) (H : Heap) (b h : Heap) (own : Own) : Prop where
  base : Le H b
  sub : Le b h
  ow : ∀ p ∈ own, OAt w b h p.1 p.2
  ownb : ∀ p ∈ own, b.get? p.1 = none
  nodup : (own.map (·.1)).Nodup

section
variable {w : World} {H : Heap} {n : Nat} {env : Env} {ρ : Names} {o₀ o₁ o₂ o₃ : Own}

theorem Loc.bas {b h : Heap} (L : Loc w H env b h ρ o₀) : Bas w H b h o₀ := ⟨L.base, L.sub, L.ow, L.ownb, L.nodup⟩
theorem Bas.left {b h : Heap} {r : Own} (B : Bas w H b h (o₀ ++ r)) : Bas w H b h o₀ :=
  ⟨B.base, B.sub, fun p hp => B.ow p (List.mem_append_left _ hp), fun p hp => B.ownb p (List.mem_append_left _ hp), (List.nodup_append.mp (by simpa using B.nodup)).1⟩
theorem Bas.pure {b : Heap} {s s' : Shared} (B : Bas w H b s.heap o₀) (k : Keeps s s') : Bas w H (growH b s.heap s'.heap) s'.heap o₀ := by
  have g := le_growH B.sub (Keeps.le k)
  exact ⟨B.base.trans g, growH_le, fun p hp => (B.ow p hp).keep g fun q e => Keeps.le k _ _ e, fun p hp => growH_none (B.ownb p hp) (B.ow p hp).live, B.nodup⟩

theorem Step.none {b b' : Heap} {s s' : Shared} (st : Step o₀ b s b' s') {a : Addr} (hb : b.get? a = none) (hl : ∃ q, s.heap.get? a = some q) : b'.get? a = none := by
  cases e : b'.get? a with
  | none => rfl
  | some o =>
    rcases st.fresh a o e with h | h
    · rw [hb] at h; cases h
    · obtain ⟨q, hq⟩ := hl; rw [hq] at h; cases h
theorem Step.wide {b b' : Heap} {s s' : Shared} {r : Own} (st : Step o₀ b s b' s') : Step (o₀ ++ r) b s b' s' :=
  ⟨st.same, fun a o ha e => st.keep a o (fun h => ha (by rw [List.map_append]; exact List.mem_append_left _ h)) e, st.live, st.grow, st.fresh⟩

/-- behind a step on a part of what is in hand -/
theorem Loc.after {b b' : Heap} {s s' : Shared} {r : Own} (L : Loc w H env b s.heap ρ (o₀ ++ r)) (st : Step o₀ b s b' s') (B : Bas w H b' s'.heap o₁) (hk : o₁.map (·.1) = o₀.map (·.1)) : Loc w H env b' s'.heap ρ (o₁ ++ r) := by
  obtain ⟨m, cm, F, hv⟩ := L.frm
  have hnk : ∀ a, Priv env a → a ∉ o₀.map (·.1) := fun a p hm => by
    obtain ⟨q, hq, rfl⟩ := List.mem_map.mp hm
    exact L.ownp q (List.mem_append_left _ hq) p
  have hr : ∀ p ∈ r, p.1 ∉ o₀.map (·.1) := fun p hp hm => by
    have := L.nodup
    rw [List.map_append] at this
    exact (List.nodup_append.mp this).2.2 _ hm _ (List.mem_map_of_mem hp) rfl
  refine ⟨L.ok, B.base, B.sub, ⟨m, cm, F.keep fun a p q e => st.keep a q (hnk a p) e, fun x d e => let ⟨v, h1, h2⟩ := hv x d e; ⟨v, h1, h2.mono st.grow⟩⟩,
    fun a p => st.none (L.priv a p) (F.live p), fun p hp => ?_, fun p hp => ?_, fun p hp => ?_, ?_⟩
  · rcases List.mem_append.mp hp with h | h
    · exact B.ow p h
    · exact (L.ow p (List.mem_append_right _ h)).keep st.grow fun q e => st.keep _ q (hr p h) e
  · rcases List.mem_append.mp hp with h | h
    · exact B.ownb p h
    · exact st.none (L.ownb p (List.mem_append_right _ h)) (L.ow p (List.mem_append_right _ h)).live
  · rcases List.mem_append.mp hp with h | h
    · have : p.1 ∈ o₀.map (·.1) := hk ▸ List.mem_map_of_mem h
      exact fun q => hnk _ q this
    · exact L.ownp p (List.mem_append_right _ h)
  · have := L.nodup
    rw [List.map_append] at this ⊢
    rw [hk]; exact this

/-- what a call of f does -/
noncomputable def Fn (w : World) (H : Heap) (n : Nat) (f : Value) (own : Own) (ds : List V) (d : V) (own' : Own) : Prop :=
  own'.map (·.1) = own.map (·.1) ∧ ∀ A b s us, Rm n A → Bas w H b s.heap own → VRs w b ds us →
    wpAny (Md w) A (call f us) (fun v s' => ∃ b', Step own b s b' s' ∧ Bas w H b' s'.heap own' ∧ VR w b' d v) NoE s

theorem Fn.le {f : Value} {ds : List V} {d : V} {k : Nat} (x : Fn w H k f o₀ ds d o₁) (h : k ≤ n) : Fn w H n f o₀ ds d o₁ := ⟨x.1, fun A b s us r => x.2 A b s us (r.le h)⟩

/-- the kinds of callee -/
inductive Kind (H : Heap) : Value → Prop
  | builtin (id) : Kind H (.builtin id)
  | type (T) : Kind H (.type T)
  | fn {a o fd} : H.get? a = some o → o.data = .func fd → Kind H (.ref a)
  | cls {a} (k : ∀ (M : Model) (h : Heap), Le H h → Looks M h (keeperOf (.ref a)) Keeper.machine) : Kind H (.ref a)

theorem wp_evalArgs {M : Model} {A : Around} {E : Value → Shared → Prop} {s : Shared} {f : Value} {l : List (Bool × Sem Value)} {Q : Args → Shared → Prop} (hl : l.any (·.1) = false)
    (h : wpAny M A (spliced l) (fun vs s' => Q ⟨vs, []⟩ s') E s) : wpAny M A (evalArgs f true l []) Q E s := by
  cases l with
  | nil =>
    unfold evalArgs
    show wpAny M A (spliced [] >>= _) Q E s
    refine wpAny_bind (wpAny_mono h (fun vs s' h' => ?_) fun _ _ x => x)
    refine wpAny_holding ?_
    exact wpAny_bind (wpAny_pure (wpAny_bind (wpAny_pure (wpAny_pure h'))))
  | cons x r =>
    obtain ⟨b, t⟩ := x
    have : b = false := by simp at hl; exact hl.1
    subst this
    exact Calls.evalArgs_plain h

/-- the call's own frame: the callee's kind decides nothing -/
theorem wp_callWith {A : Around} {E : Value → Shared → Prop} {s : Shared} {f : Value} {pos : Pos} {first : List Value} {l : List (Bool × Sem Value)} {Q : Value → Shared → Prop} (K : Kind H f) (hl : l.any (·.1) = false)
    (h : wpAny (Md w) A (spliced l) (fun vs s' => Le H s'.heap ∧ wpAny (Md w) A (call f (first ++ vs)) Q E s') E s) : wpAny (Md w) A (callWith pos f first l []) Q E s := by
  cases K with
  | builtin id => exact Calls.callWith_builtin hl (wp_evalArgs hl (wpAny_mono h (fun _ _ x => x.2) fun _ _ x => x))
  | type T => exact PyProof.Rows.callWith_type hl (wp_evalArgs hl (wpAny_mono h (fun _ _ x => x.2) fun _ _ x => x))
  | fn ho hd => exact Calls.callWith_function (wp_evalArgs hl (wpAny_mono h (fun _ _ x => ⟨⟨x.1 _ _ ho, hd⟩, x.2⟩) fun _ _ x => x))
  | cls k =>
    unfold callWith
    refine wpAny_bind (wpAny_holding (wp_evalArgs hl (wpAny_mono h (fun vs s₁ h₁ => wpAny_bind (wpAny_standAt ?_)) fun _ _ x => x)))
    simp only [hl, List.any_nil, Bool.or_false]
    refine wpAny_bind ((k (Md w) _ h₁.1).here ?_)
    exact wpAny_bind (wpAny_mono h₁.2 (fun r s₂ hr => wpAny_bind (wpAny_holding (wpAny_point (wpAny_pure hr)))) fun _ _ x => x)

theorem Fn.pt {f : Value} {ds : List V} {d : V} {r : Own} (x : Fn w H n f o₀ ds d o₁) {A : Around} {b : Heap} {s : Shared} {us : List Value} (rm : Rm n A) (L : Loc w H env b s.heap ρ (o₀ ++ r)) (hr : VRs w b ds us) :
    wpAny (Md w) A (call f us) (Pt w H env ρ (o₀ ++ r) b s (o₁ ++ r) d) NoE s :=
  wpAny_mono (x.2 A b s us rm L.bas.left hr) (fun v s' ⟨b', st, B, rv⟩ => ⟨b', st.wide, L.after st B x.1, rv⟩) fun _ _ f => f

theorem keys_app {r : Own} (h : o₁.map (·.1) = o₀.map (·.1)) : (o₁ ++ r).map (·.1) = (o₀ ++ r).map (·.1) := by rw [List.map_append, List.map_append, h]

/-- f(e, ..): r is what the callee has no part in -/
theorem Ev.call {func : Expr} {args : List Expr} {pos : Pos} {f : Value} {ds : List V} {d : V} {r : Own} (x : Ev w H n env ρ o₀ func (.raw f) (o₁ ++ r)) (y : Es w H n env ρ (o₁ ++ r) args ds (o₂ ++ r)) (K : Kind H f) (h : Fn w H n f o₂ ds d o₃)
    (hp : ∀ pos, (backTo pos (starEach args env)).any (·.1) = false := by intro _; rfl)
    (he : eval (.Call func args [] pos) env = (do callWith pos (← eval func env) [] (backTo pos (starEach args env)) (backToKw pos (keywordEach [] env))) := by rfl) : Ev w H n env ρ o₀ (.Call func args [] pos) d (o₃ ++ r) :=
  .mk ((keys_app h.1).trans (y.1.trans x.1)) fun A b s rm L => Call_ (wpAny_mono (x.run rm L) (fun u s₁ ⟨b₁, st₁, L₁, r₁⟩ => by
    cases r₁
    exact wp_callWith K (hp _) (wpAny_mono (y.2 A b₁ s₁ pos rm L₁) (fun us s₂ ⟨b₂, st₂, L₂, r₂⟩ => ⟨L₂.base.trans L₂.sub, wpAny_mono (h.pt rm L₂ r₂) (fun _ _ p => (p.pre st₂ y.1).pre st₁ x.1) fun _ _ f => f⟩) fun _ _ f => f)) fun _ _ f => f) he

/-- an instance: frozen, or in hand -/
noncomputable def AsI (own : Own) (d : V) (C : Addr) (fs : List (Str × V)) : Prop := d = .ins C fs ∨ ∃ x dx, d = .raw (.ref x) ∧ (dx, O.attrs x C fs) ∈ own
theorem AsI.ins {own : Own} {C : Addr} {fs : List (Str × V)} : AsI own (.ins C fs) C fs := .inl rfl
theorem AsI.own {own : Own} {x dx C : Addr} {fs : List (Str × V)} (h : (dx, O.attrs x C fs) ∈ own) : AsI own (.raw (.ref x)) C fs := .inr ⟨x, dx, rfl, h⟩
theorem seeI {b : Heap} {s : Shared} {d : V} {C : Addr} {fs : List (Str × V)} {u : Value} (B : Bas w H b s.heap o₀) (r : VR w b d u) (h : AsI o₀ d C fs) :
    ∃ x dx es n, u = .ref x ∧ InstAt s.heap x (instObj C dx) C (some (dictOf es n)) ∧ VRe w b fs es := by
  rcases h with rfl | ⟨x, dx, rfl, hm⟩
  · simp only [VR] at r
    obtain ⟨x, dx, es, n, e, h1, h2, hp⟩ := r
    exact ⟨x, dx, es, n, e, ⟨B.sub _ _ h1, rfl, rfl, B.sub _ _ h2⟩, hp⟩
  · simp only [VR] at r
    obtain ⟨hx, es, n, hq, hv, _⟩ := B.ow _ hm
    exact ⟨x, dx, es, n, r, ⟨B.sub _ _ hx, rfl, rfl, hq⟩, hv⟩

/-- data that an attribute may hand on -/
noncomputable def V.handed : V → Bool
  | .raw v => handedIn v
  | _ => true
theorem VR.handed {b : Heap} {d : V} {v : Value} (r : VR w b d v) (h : d.handed = true) : handedIn v = true := by
  cases d with
  | raw u => simp only [VR] at r; subst r; exact h
  | int i => obtain ⟨t, rfl⟩ := r; rfl
  | str i => obtain ⟨t, rfl⟩ := r; rfl
  | tup ds => simp only [VR] at r; obtain ⟨a, _, rfl, _⟩ := r; rfl
  | lst ds => simp only [VR] at r; obtain ⟨a, _, rfl, _⟩ := r; rfl
  | dct ds => simp only [VR] at r; obtain ⟨a, _, rfl, _⟩ := r; rfl
  | ins C ds => simp only [VR] at r; obtain ⟨a, _, _, _, rfl, _⟩ := r; rfl
  | rng _ _ => simp only [VR] at r; obtain ⟨a, _, _, _, rfl, _⟩ := r; rfl
  | tdc _ => simp only [VR] at r; obtain ⟨a, _, rfl, _⟩ := r; rfl

/-- what the class gives: no hook on reading -/
structure ClsOk (K : Frag) (C : Addr) : Prop where
  ga : findIn K (.ref C) "__getattribute__" = some (some (.builtin "object.__getattribute__"))
  gt : findIn K (.ref C) "__getattr__" = some none
  hd : hasDictIn K C = true

theorem Ev.attr {K : Frag} {value : Expr} {name : Str} {pos : Pos} {a d : V} {C : Addr} {fs : List (Str × V)} (X : K.In H) (x : Ev w H n env ρ o₀ value a o₁) (hi : AsI o₁ a C fs) (hC : ClsOk K C) (ha : findIn K (.ref C) name = some none) (hl : lookV fs name = some d) (hh : d.handed = true := by rfl)
    (he : eval (.Attribute value name pos) env = (do
      let o ← eval value env
      standAt pos.atName
      let r ← holding [o] (getAttr o name true)
      letTemporaryGo value o r
      pure r) := by rfl) : Ev w H n env ρ o₀ (.Attribute value name pos) d o₁ :=
  .mk x.1 fun A b s rm L => Attribute_any_ (wpAny_mono (x.run rm L) (fun u s₁ ⟨b₁, st₁, L₁, r₁⟩ => by
    obtain ⟨x', dx, es, m, rfl, I, hv⟩ := seeI L₁.bas r₁ hi
    obtain ⟨v, h1, h2⟩ := hv.find hl
    exact get_value (X.keeps (L₁.base.trans L₁.sub)) I hC.ga (findObj_own hC.hd ha rfl h1) (h2.handed hh) (Pt.pre st₁ x.1 (Pt.same L₁ _ h2))) fun _ _ f => f) he

/-- o.name(e, ..): a method of the class -/
theorem Ev.meth {K : Frag} {o : Expr} {args : List Expr} {name : Str} {apos pos : Pos} {a d : V} {C f : Addr} {fs : List (Str × V)} {ds : List V} {r : Own} {ob : Obj} {fd : FuncData} (X : K.In H) (x : Ev w H n env ρ o₀ o a (o₁ ++ r)) (hi : AsI (o₁ ++ r) a C fs) (hC : ClsOk K C)
    (hf : findIn K (.ref C) name = some (some (.ref f))) (hk : K.lookup f = some ob) (hkc : ob.cls = .type "function") (hkd : ob.data = .func fd) (hl : lookV fs name = none)
    (y : Es w H n env ρ (o₁ ++ r) args ds (o₂ ++ r)) (h : Fn w H n (.ref f) o₂ (a :: ds) d o₃)
    (hp : ∀ pos, (backTo pos (starEach args env)).any (·.1) = false := by intro _; rfl)
    (he : ∃ pl, eval (.Call (.Attribute o name apos) args [] pos) env = (do
      let ov ← eval o env
      standAt apos.atName
      let (f, first) ← holding [ov] (getMethod ov name pl)
      callWith pos f first (backTo pos (starEach args env)) (backToKw pos (keywordEach [] env))) := by exact ⟨_, rfl⟩) : Ev w H n env ρ o₀ (.Call (.Attribute o name apos) args [] pos) d (o₃ ++ r) := by
  obtain ⟨pl, he⟩ := he
  refine .mk ((keys_app h.1).trans (y.1.trans x.1)) fun A b s rm L => methodCall_KW (pl := pl) (wpAny_mono (x.run rm L) (fun u s₁ ⟨b₁, st₁, L₁, r₁⟩ => ?_) fun _ _ f => f) he
  obtain ⟨x', dx, es, m, rfl, I, hv⟩ := seeI L₁.bas r₁ hi
  have hm := hv.miss hl
  refine method_fn (X.keeps (L₁.base.trans L₁.sub)) I hC.ga hC.gt hf (by show (K.lookup f).map (·.cls) = _; rw [hk]; exact congrArg some hkc) (by show (lookIn name (dictOf es m)).map _ = _; rw [lookIn_dict, hm]; rfl) ?_
  refine wp_callWith (.fn (X _ _ hk) hkd) (hp _) (wpAny_mono (y.2 A b₁ s₁ pos rm L₁) (fun us s₂ ⟨b₂, st₂, L₂, r₂⟩ => ⟨L₂.base.trans L₂.sub, ?_⟩) fun _ _ f => f)
  exact wpAny_mono (h.pt (us := .ref x' :: us) rm L₂ (by simp only [VRs]; exact ⟨r₁.mono st₂.grow, r₂⟩)) (fun _ _ p => (p.pre st₂ y.1).pre st₁ x.1) fun _ _ f => f
end
end Mine
end
section
open PySem PySem.W PyProof.Rows PySem.MeetsSeq PySem.SeqAt
namespace Mine

noncomputable def upd (ρ : Names) (x : Str) (d : V) : Names := fun y => if y = x then some d else ρ y
theorem upd_here {ρ : Names} {x : Str} {d : V} : upd ρ x d x = some d := if_pos rfl
theorem upd_there {ρ : Names} {x y : Str} {d : V} (h : y ≠ x) : upd ρ x d y = ρ y := if_neg h

structure Sta (w : World) (H : Heap) (env : Env) (pk : List Addr) (o₀ : Own) (b₀ : Heap) (s₀ : Shared) (Z : Heap) (b : Heap) (s : Shared) (ρ : Names) (own : Own) : Prop where
  keys : o₀.map (·.1) = pk
  st : Step o₀ b₀ s₀ b s
  loc : Loc w H env b s.heap ρ own
  priv0 : ∀ a, Priv env a → s₀.heap.get? a = none
  own0 : ∀ p ∈ own, p.1 ∈ o₀.map (·.1) ∨ s₀.heap.get? p.1 = none
  pin : Le Z s.heap
  pinO : ∀ a q, Z.get? a = some q → a ∉ own.map (·.1) ∧ ¬ Priv env a ∧ b.get? a = none
  lv : ∀ a ∈ pk, ∃ q, s₀.heap.get? a = some q

section
variable {w : World} {H Z : Heap} {n : Nat} {pk : List Addr} {env : Env} {ρ : Names} {o₀ o₁ o₂ o₃ own own₁ : Own}

theorem Sta.step {b₀ b b' : Heap} {s₀ s s' : Shared} {ρ' : Names} (S : Sta w H env pk o₀ b₀ s₀ Z b s ρ own) (st : Step own b s b' s') (L : Loc w H env b' s'.heap ρ' own₁) (hk : own₁.map (·.1) = own.map (·.1)) : Sta w H env pk o₀ b₀ s₀ Z b' s' ρ' own₁ where
  keys := S.keys
  st := by
    refine ⟨?_, fun a o ha e => ?_, fun a o e => let ⟨q, hq⟩ := S.st.live a o e; st.live a q hq, S.st.grow.trans st.grow, fun a o e => ?_⟩
    · obtain ⟨h, t, rfl⟩ := S.st.same
      obtain ⟨h', t', rfl⟩ := st.same
      exact ⟨h', t', rfl⟩
    · refine st.keep a o (fun hm => ?_) (S.st.keep a o ha e)
      obtain ⟨p, hp, rfl⟩ := List.mem_map.mp hm
      rcases S.own0 p hp with h | h
      · exact ha h
      · rw [h] at e; cases e
    · rcases st.fresh a o e with h | h
      · exact S.st.fresh a o h
      · right
        cases hs : s₀.heap.get? a with
        | none => rfl
        | some q => obtain ⟨q', hq'⟩ := S.st.live a q hs; rw [hq'] at h; cases h
  loc := L
  priv0 := S.priv0
  own0 := fun p hp => by
    have : p.1 ∈ own.map (·.1) := hk ▸ List.mem_map_of_mem hp
    obtain ⟨q, hq, e⟩ := List.mem_map.mp this
    rw [← e]; exact S.own0 q hq
  pin := fun a q e => st.keep a q (S.pinO a q e).1 (S.pin a q e)
  pinO := fun a q e => ⟨hk ▸ (S.pinO a q e).1, (S.pinO a q e).2.1, st.none (S.pinO a q e).2.2 ⟨q, S.pin a q e⟩⟩
  lv := S.lv

/-- a change at one private place -/
theorem Sta.local {b₀ b : Heap} {s₀ s : Shared} {ρ' : Names} {h' : Heap} {a : Addr} {k : Nat} (S : Sta w H env pk o₀ b₀ s₀ Z b s ρ own) (hs : Heap.SameBut a s.heap h') (pa : Priv env a) (hq : ∃ q, h'.get? a = some q)
    (hf : ∃ m cm, Fm env h' m cm ∧ ∀ x d, ρ' x = some d → ∃ v, nameVal env m cm x = some v ∧ VR w b d v) : Sta w H env pk o₀ b₀ s₀ Z b { s with heap := h', toks := k } ρ' own := by
  have L := S.loc
  have ext : ∀ c o, c ≠ a → s.heap.get? c = some o → h'.get? c = some o := fun c o hc e => (hs.2 c hc).trans e
  have hba : b.get? a = none := L.priv a pa
  have hsa := S.priv0 a pa
  refine ⟨S.keys, ⟨?_, fun c o hc e => ext c o (fun e' => by rw [e', hsa] at e; cases e) (S.st.keep c o hc e), fun c o e => ?_, S.st.grow, S.st.fresh⟩, ⟨L.ok, L.base, fun c o e => ext c o (fun e' => by rw [e', hba] at e; cases e) (L.sub c o e), hf, L.priv, fun p hp => ?_, L.ownb, L.ownp, L.nodup⟩, S.priv0, S.own0, fun c q e => ext c q (fun e' => (S.pinO c q e).2.1 (e' ▸ pa)) (S.pin c q e), S.pinO, S.lv⟩
  · obtain ⟨h, t, rfl⟩ := S.st.same; exact ⟨h', k, rfl⟩
  · by_cases hc : c = a
    · subst hc; exact hq
    · obtain ⟨q, hq'⟩ := S.st.live c o e; exact ⟨q, ext c q hc hq'⟩
  · exact (L.ow p hp).keep (Le.refl _) fun q e => ext _ q (fun e' => L.ownp p hp (e' ▸ pa)) e

noncomputable def Storable (env : Env) (x : Str) : Prop := env.kindOf x = some .local ∨ (env.kindOf x = some .cell ∧ (env.cells.lookup x).isSome = true)

theorem Sta.store {A : Around} {E : Value → Shared → Prop} {b₀ b : Heap} {s₀ s : Shared} {x : Str} {d : V} {v : Value} {Q : Unit → Shared → Prop} (S : Sta w H env pk o₀ b₀ s₀ Z b s ρ own) (hx : Storable env x) (r : VR w b d v)
    (h : ∀ s', Sta w H env pk o₀ b₀ s₀ Z b s' (upd ρ x d) own → Q () s') : wpAny (Md w) A (storeName env x v) Q E s := by
  obtain ⟨m, cm, F, hv⟩ := S.loc.frm
  rcases hx with hl | ⟨hc, hl⟩
  · refine wpAny_storeName_local hl F.ns (fun h' hn hs => h _ (S.local hs (.inl rfl) (by obtain ⟨o, _, _, ho, _⟩ := hn; exact ⟨o, ho⟩) ⟨_, cm, ⟨hn, fun y c hy => (F.cell y c hy).sameBut hs (Ne.symm (F.ne y c hy)), F.apart, F.ne⟩, fun y e hy => ?_⟩)) (by rw [S.loc.ok.fn]; rfl)
    · by_cases hyx : y = x
      · subst hyx; rw [upd_here] at hy; cases hy; exact ⟨v, by simp [nameVal, hl], r⟩
      · rw [upd_there hyx] at hy
        obtain ⟨u, h1, h2⟩ := hv y e hy
        refine ⟨u, ?_, h2⟩
        simpa [nameVal, hyx] using h1
  · obtain ⟨c, hc'⟩ := Option.isSome_iff_exists.mp hl
    refine wpAny_storeName_cell S.loc.ok.fn hc hc' (F.cell x c hc') fun h' hn hs => ?_
    have hL : env.locals ≠ c := F.ne x c hc'
    have := S.local (ρ' := upd ρ x d) (k := s.toks) hs (.inr ⟨x, hc'⟩) (by obtain ⟨o, ho, _⟩ := hn; exact ⟨o, ho⟩)
      ⟨m, fun y => if y = x then some v else cm y, ⟨F.ns.sameBut hs hL, fun y c' hy => ?_, F.apart, F.ne⟩, fun y e hy => ?_⟩
    · exact h _ this
    · by_cases hyx : y = x
      · subst hyx; rw [hc'] at hy; cases hy; simpa using hn
      · simp only [hyx, if_false]
        exact (F.cell y c' hy).sameBut hs fun e => hyx (name_of_addr F.apart (mem_of_lookup hy) (e ▸ mem_of_lookup hc'))
    · by_cases hyx : y = x
      · subst hyx; rw [upd_here] at hy; cases hy
        have hnl : ¬ env.kindOf y = some .local := by rw [hc]; decide
        exact ⟨v, by simp [nameVal, hc, hc'], r⟩
      · rw [upd_there hyx] at hy
        obtain ⟨u, h1, h2⟩ := hv y e hy
        refine ⟨u, ?_, h2⟩
        simpa [nameVal, hyx] using h1

/-- what stands behind a run of statements -/
noncomputable def Pf (w : World) (H : Heap) (env : Env) (pk : List Addr) (o₀ : Own) (b₀ : Heap) (s₀ : Shared) (Z : Heap) (N : Names → Own → Prop) (R : V → Own → Prop) (f : Flow) (s' : Shared) : Prop :=
  match f with
  | .next => ∃ b' ρ' own', N ρ' own' ∧ Sta w H env pk o₀ b₀ s₀ Z b' s' ρ' own'
  | .ret v => ∃ b' ρ' own' d, R d own' ∧ Sta w H env pk o₀ b₀ s₀ Z b' s' ρ' own' ∧ VR w b' d v
  | _ => False

/-- the judgement on a run of statements -/
noncomputable def Sx (w : World) (H : Heap) (n : Nat) (pk : List Addr) (env : Env) (sts : List Stmt) (ρ : Names) (own : Own) (N : Names → Own → Prop) (R : V → Own → Prop) : Prop :=
  ∀ A o₀ b₀ s₀ Z b s, Rm n A → Sta w H env pk o₀ b₀ s₀ Z b s ρ own → wpAny (Md w) A (execs sts env) (Pf w H env pk o₀ b₀ s₀ Z N R) NoE s
/-- and on one -/
noncomputable def S1 (w : World) (H : Heap) (n : Nat) (pk : List Addr) (env : Env) (st : Stmt) (ρ : Names) (own : Own) (N : Names → Own → Prop) (R : V → Own → Prop) : Prop :=
  ∀ A o₀ b₀ s₀ Z b s, Rm n A → Sta w H env pk o₀ b₀ s₀ Z b s ρ own → wpAny (Md w) A (exec st env) (Pf w H env pk o₀ b₀ s₀ Z N R) NoE s

variable {N : Names → Own → Prop} {R : V → Own → Prop} {sts : List Stmt} {st : Stmt}

theorem Sx.nil (h : N ρ own) : Sx w H n pk env [] ρ own N R := fun A o₀ b₀ s₀ Z b s rm S => wpAny_execs_nil ⟨b, ρ, own, h, S⟩
theorem Sx.cons (x : S1 w H n pk env st ρ own (fun ρ' own' => Sx w H n pk env sts ρ' own' N R) R) : Sx w H n pk env (st :: sts) ρ own N R := fun A o₀ b₀ s₀ Z b s rm S =>
  wpAny_execs_cons (wpAny_mono (x A o₀ b₀ s₀ Z b s rm S) (fun f s' p => by
    cases f with
    | next => obtain ⟨b', ρ', own', h, S'⟩ := p; exact h A o₀ b₀ s₀ Z b' s' rm S'
    | ret v => exact p
    | brk => exact p
    | cont => exact p) fun _ _ f => f)
theorem Sx.mono {N' : Names → Own → Prop} {R' : V → Own → Prop} (x : Sx w H n pk env sts ρ own N R) (hN : ∀ ρ o, N ρ o → N' ρ o) (hR : ∀ d o, R d o → R' d o) : Sx w H n pk env sts ρ own N' R' := fun A o₀ b₀ s₀ Z b s rm S =>
  wpAny_mono (x A o₀ b₀ s₀ Z b s rm S) (fun f s' p => by
    cases f with
    | next => obtain ⟨b', ρ', own', h, S'⟩ := p; exact ⟨b', ρ', own', hN _ _ h, S'⟩
    | ret v => obtain ⟨b', ρ', own', d, h, S', r⟩ := p; exact ⟨b', ρ', own', d, hR _ _ h, S', r⟩
    | brk => exact p
    | cont => exact p) fun _ _ f => f

theorem S1.ret {e : Expr} {pos : Pos} {d : V} (x : Ev w H n env ρ own e d own₁) (h : R d own₁) : S1 w H n pk env (.Return (some e) pos) ρ own N R := fun A o₀ b₀ s₀ Z b s rm S =>
  wpAny_Return_some (wpAny_mono (x.run rm S.loc) (fun v s' ⟨b', st, L, r⟩ => ⟨b', ρ, own₁, d, h, S.step st L x.1, r⟩) fun _ _ f => f)

theorem S1.ite {t : Expr} {bd el : List Stmt} {pos : Pos} {q : Bool} (x : Te w H n env ρ own t q own₁) (y : Sx w H n pk env (if q then bd else el) ρ own₁ N R) : S1 w H n pk env (.If t bd el pos) ρ own N R := fun A o₀ b₀ s₀ Z b s rm S =>
  wpAny_If (wpAny_mono (x.run rm S.loc) (fun v s' ⟨e, b', st, L⟩ => by
    subst e
    have := y A o₀ b₀ s₀ Z b' s' rm (S.step st L x.1)
    cases v <;> exact this) fun _ _ f => f)
theorem S1.iteT {t : Expr} {bd el : List Stmt} {pos : Pos} (x : Te w H n env ρ own t true own₁) (y : Sx w H n pk env bd ρ own₁ N R) : S1 w H n pk env (.If t bd el pos) ρ own N R := S1.ite x y
theorem S1.assign {x : Str} {pos' pos : Pos} {e : Expr} {d : V} (v : Ev w H n env ρ own e d own₁) (hx : Storable env x) (h : N (upd ρ x d) own₁) (hs : swapsWith e (some (.Name x pos')) pos.line env = pure false := by rfl) : S1 w H n pk env (.Assign [.Name x pos'] e pos) ρ own N R := fun A o₀ b₀ s₀ Z b s rm S =>
  wpAny_Assign_Name (wpAny_mono (v.run rm S.loc) (fun u s' ⟨b', st, L, r⟩ => (S.step st L v.1).store hx r fun s'' S' => ⟨b', _, own₁, h, S'⟩) fun _ _ f => f) hs
end
end Mine
end
section
open PySem PySem.W PyProof.Rows PySem.MeetsSeq PySem.SeqAt
namespace Mine

theorem bindL_other {k : Str → Option NameKind} {x : Str} : ∀ {binds : List (Str × Value)} {m : Str → Option Value}, x ∉ binds.map (·.1) → bindL k binds m x = m x
  | [], _, _ => rfl
  | (y, v) :: r, m, h => by
    simp only [List.map_cons, List.mem_cons, not_or] at h
    unfold bindL
    rw [bindL_other h.2]
    by_cases hk : k y = some .local
    · rw [if_pos hk, if_neg h.1]
    · rw [if_neg hk]
theorem bindC_other {k : Str → Option NameKind} {x : Str} : ∀ {binds : List (Str × Value)} {m : Str → Option Value}, x ∉ binds.map (·.1) → bindC k binds m x = m x
  | [], _, _ => rfl
  | (y, v) :: r, m, h => by
    simp only [List.map_cons, List.mem_cons, not_or] at h
    unfold bindC
    rw [bindC_other h.2]
    by_cases hk : k y = some .local
    · rw [if_pos hk]
    · rw [if_neg hk, if_neg h.1]
theorem bindL_here {k : Str → Option NameKind} {x : Str} {v : Value} : ∀ {binds : List (Str × Value)} {m : Str → Option Value}, (x, v) ∈ binds → (binds.map (·.1)).Nodup → k x = some .local → bindL k binds m x = some v
  | [], _, h, _, _ => nomatch h
  | (y, u) :: r, m, h, hn, hk => by
    simp only [List.map_cons, List.nodup_cons] at hn
    rcases List.mem_cons.mp h with e | e
    · cases e
      unfold bindL
      rw [bindL_other hn.1, if_pos hk, if_pos rfl]
    · unfold bindL
      exact bindL_here e hn.2 hk
theorem bindC_here {k : Str → Option NameKind} {x : Str} {v : Value} : ∀ {binds : List (Str × Value)} {m : Str → Option Value}, (x, v) ∈ binds → (binds.map (·.1)).Nodup → k x ≠ some .local → bindC k binds m x = some v
  | [], _, h, _, _ => nomatch h
  | (y, u) :: r, m, h, hn, hk => by
    simp only [List.map_cons, List.nodup_cons] at hn
    rcases List.mem_cons.mp h with e | e
    · cases e
      unfold bindC
      rw [bindC_other hn.1, if_neg hk, if_pos rfl]
    · unfold bindC
      exact bindC_here e hn.2 hk

noncomputable def argsρ (ps : List Str) (ds : List V) : Names := fun x => (ps.zip ds).lookup x

theorem zip_lookup {w : World} {b : Heap} {x : Str} {d : V} : ∀ {ps : List Str} {ds : List V} {us : List Value}, VRs w b ds us → (ps.zip ds).lookup x = some d → ∃ v, (x, v) ∈ ps.zip us ∧ VR w b d v
  | [], _, _, _, h => by simp at h
  | p :: ps, [], _, _, h => by simp at h
  | p :: ps, d' :: ds, [], hr, _ => by simp [VRs] at hr
  | p :: ps, d' :: ds, u :: us, hr, h => by
    simp only [VRs] at hr
    by_cases hx : x = p
    · subst hx
      simp at h; subst h
      exact ⟨u, by simp, hr.1⟩
    · have : (x == p) = false := by simpa using hx
      simp only [List.zip_cons_cons, List.lookup_cons, this] at h
      obtain ⟨v, h1, h2⟩ := zip_lookup hr.2 h
      exact ⟨v, by simp [h1], h2⟩

section
variable {w : World} {H Z : Heap} {n : Nat} {pk : List Addr} {env : Env} {ρ : Names} {o₀ o₁ o₂ o₃ own own₁ : Own} {N : Names → Own → Prop} {R : V → Own → Prop} {sts : List Stmt} {st : Stmt}

/-- a def as it stands in the text -/
structure FnOk (H : Heap) (a : Addr) (fd : FuncData) (body : List Stmt) (ps : List Str) : Prop where
  at_ : ∃ o, H.get? a = some o ∧ o.data = .func fd
  code : H.CodeRec fd.code fd.qualname
  body : fd.body = .stmts body
  clo : fd.closure = []
  gl : fd.globals = mainGlobals
  bl : fd.builtins = builtinsNs
  kind : fd.scope.kind = .function
  co : fd.scope.isCoroutine = false
  gen : fd.scope.isGenerator = false
  bind : ∀ us : List Value, us.length = ps.length → bindArgs fd ⟨us, []⟩ = pure (ps.zip us)
  par : ps.Nodup
  kinds : ∀ x ∈ ps, fd.scope.names.lookup x = some .local ∨ (fd.scope.names.lookup x = some .cell ∧ ∀ k, ((cellsFrom k fd.scope.names []).lookup x).isSome = true)

/-- something in hand is laid down for good -/
noncomputable def plusH (b h : Heap) (a : Addr) : Heap := only h fun c => (b.get? c).isSome || c == a
theorem plusH_some {b h : Heap} {a c : Addr} {o : Obj} : (plusH b h a).get? c = some o ↔ ((b.get? c).isSome = true ∨ c = a) ∧ h.get? c = some o := by
  rw [plusH, only_some]; simp
theorem le_plusH {b h : Heap} {a : Addr} (s : Le b h) : Le b (plusH b h a) := fun _ _ e => plusH_some.mpr ⟨.inl (by rw [e]; rfl), s _ _ e⟩

theorem Sta.freeze {b₀ b : Heap} {s₀ s : Shared} {a : Addr} {o : O} (S : Sta w H env pk o₀ b₀ s₀ Z b s ρ ((a, o) :: own)) (ha : a ∉ pk) : Sta w H env pk o₀ b₀ s₀ Z (plusH b s.heap a) s ρ own := by
  have L := S.loc
  have g : Le b (plusH b s.heap a) := le_plusH L.sub
  have hs0 : s₀.heap.get? a = none := (S.own0 _ (.head _)).resolve_left fun h => ha (S.keys ▸ h)
  have hnd := L.nodup
  simp only [List.map_cons, List.nodup_cons] at hnd
  have none' : ∀ c, b.get? c = none → c ≠ a → (plusH b s.heap a).get? c = none := fun c hb hc => by
    cases e : (plusH b s.heap a).get? c with
    | none => rfl
    | some q =>
      obtain ⟨h1 | h1, _⟩ := plusH_some.mp e
      · rw [hb] at h1; cases h1
      · exact absurd h1 hc
  obtain ⟨m, cm, F, hv⟩ := L.frm
  refine ⟨S.keys, ⟨S.st.same, S.st.keep, S.st.live, S.st.grow.trans g, fun c q e => ?_⟩, ⟨L.ok, L.base.trans g, fun c q e => (plusH_some.mp e).2, ⟨m, cm, F, fun x d e => let ⟨v, h1, h2⟩ := hv x d e; ⟨v, h1, h2.mono g⟩⟩,
    fun c p => none' c (L.priv c p) fun e => L.ownp _ (.head _) (e ▸ p), fun p hp => (L.ow p (.tail _ hp)).keep g fun _ e => e, fun p hp => none' _ (L.ownb p (.tail _ hp)) fun e => hnd.1 (e ▸ List.mem_map_of_mem hp), fun p hp => L.ownp p (.tail _ hp), hnd.2⟩, S.priv0, fun p hp => S.own0 p (.tail _ hp), S.pin, fun c q e => ⟨fun hm => (S.pinO c q e).1 (List.mem_cons_of_mem _ hm), (S.pinO c q e).2.1, none' c (S.pinO c q e).2.2 fun e' => (S.pinO c q e).1 (e' ▸ List.mem_cons_self)⟩, S.lv⟩
  obtain ⟨h1 | h1, h2⟩ := plusH_some.mp e
  · obtain ⟨q', hq'⟩ := Option.isSome_iff_exists.mp h1
    have : q' = q := by have := L.sub _ _ hq'; rw [h2] at this; exact (Option.some.inj this).symm
    subst this
    exact S.st.fresh c q' hq'
  · exact .inr (h1 ▸ hs0)
theorem frozenL {b h : Heap} {a : Addr} {ds : List V} (sub : Le b h) (x : OAt w b h a (.list ds)) : VR w (plusH b h a) (.lst ds) (.ref a) := by
  obtain ⟨vs, ⟨o, n, ho, r⟩, hs⟩ := x
  simp only [VR]
  exact ⟨a, vs, rfl, ⟨o, n, plusH_some.mpr ⟨.inr rfl, ho⟩, r⟩, hs.mono (le_plusH sub)⟩
theorem frozenD {b h : Heap} {a : Addr} {kvs : List (Str × V)} (sub : Le b h) (x : OAt w b h a (.dict kvs)) : VR w (plusH b h a) (.dct kvs) (.ref a) := by
  obtain ⟨kv, hm, ⟨o, es, ep, ho, r⟩, hs⟩ := x
  simp only [VR]
  exact ⟨a, kv, rfl, hm, ⟨o, es, ep, plusH_some.mpr ⟨.inr rfl, ho⟩, r⟩, hs.mono (le_plusH sub)⟩
theorem frozenI {b h : Heap} {a x C : Addr} {fs : List (Str × V)} (sub : Le b h) (q : OAt w b h a (.attrs x C fs)) : VR w (plusH b h a) (.ins C fs) (.ref x) := by
  obtain ⟨hx, es, n, ho, hs, _⟩ := q
  simp only [VR]
  exact ⟨x, a, es, n, rfl, le_plusH sub _ _ hx, plusH_some.mpr ⟨.inr rfl, ho⟩, hs.mono (le_plusH sub)⟩

/-- return of what was in hand -/
theorem S1.retL {e : Expr} {pos : Pos} {a : Addr} {ds : List V} (x : Ev w H n env ρ own e (.raw (.ref a)) ((a, .list ds) :: own₁)) (ha : a ∉ pk) (h : R (.lst ds) own₁) : S1 w H n pk env (.Return (some e) pos) ρ own N R := fun A o₀ b₀ s₀ Z b s rm S =>
  wpAny_Return_some (wpAny_mono (x.run rm S.loc) (fun v s' ⟨b', st, L, r⟩ => by
    cases r
    exact ⟨_, ρ, own₁, _, h, (S.step st L x.1).freeze ha, frozenL L.sub (L.ow _ (.head _))⟩) fun _ _ f => f)
theorem S1.retD {e : Expr} {pos : Pos} {a : Addr} {kvs : List (Str × V)} (x : Ev w H n env ρ own e (.raw (.ref a)) ((a, .dict kvs) :: own₁)) (ha : a ∉ pk) (h : R (.dct kvs) own₁) : S1 w H n pk env (.Return (some e) pos) ρ own N R := fun A o₀ b₀ s₀ Z b s rm S =>
  wpAny_Return_some (wpAny_mono (x.run rm S.loc) (fun v s' ⟨b', st, L, r⟩ => by
    cases r
    exact ⟨_, ρ, own₁, _, h, (S.step st L x.1).freeze ha, frozenD L.sub (L.ow _ (.head _))⟩) fun _ _ f => f)

/-- the order in hand is free -/
theorem Loc.perm {b h : Heap} (L : Loc w H env b h ρ own) (p : own.Perm own₁) : Loc w H env b h ρ own₁ :=
  ⟨L.ok, L.base, L.sub, L.frm, L.priv, fun q hq => L.ow q (p.mem_iff.mpr hq), fun q hq => L.ownb q (p.mem_iff.mpr hq), fun q hq => L.ownp q (p.mem_iff.mpr hq), (p.map _).nodup_iff.mp L.nodup⟩
theorem Sta.perm {b₀ b : Heap} {s₀ s : Shared} (S : Sta w H env pk o₀ b₀ s₀ Z b s ρ own) (p : own.Perm own₁) : Sta w H env pk o₀ b₀ s₀ Z b s ρ own₁ := ⟨S.keys, S.st, S.loc.perm p, S.priv0, fun q hq => S.own0 q (p.mem_iff.mpr hq), S.pin, fun c q e => ⟨fun hm => (S.pinO c q e).1 ((p.map _).mem_iff.mpr hm), (S.pinO c q e).2⟩, S.lv⟩
theorem Sx.perm (p : own.Perm own₁) (x : Sx w H n pk env sts ρ own₁ N R) : Sx w H n pk env sts ρ own N R := fun A o₀ b₀ s₀ Z b s rm S => x A o₀ b₀ s₀ Z b s rm (S.perm p)
end
end Mine
end
section
open PySem PySem.W PyProof.Rows PySem.MeetsSeq PySem.SeqAt
namespace Mine

section
variable {w : World} {H : Heap} {n : Nat} {pk : List Addr} {env : Env} {ρ : Names} {o₀ o₁ o₂ o₃ own own₁ : Own} {N : Names → Own → Prop} {R : V → Own → Prop} {sts : List Stmt} {st : Stmt}

/-- an iterator at its start: what it gives, where it stands -/
structure Wk (w : World) (A : Around) (env : Env) (own F : Own) (b : Heap) (s : Shared) (ds : List V) (I : Addr) (fp wr : List Addr) (P : Nat → Value → Prop) (St : Nat → Heap → Prop) : Prop where
  walks : Walks Pg w A I fp wr ds.length P St
  item : ∀ i v, P i v → ∃ d, ds[i]? = some d ∧ VR w b d v
  st : St 0 s.heap
  alive : ∀ i h, St i h → ∀ a ∈ wr, ∃ q, h.get? a = some q
  self : I ∈ wr
  new : ∀ a ∈ wr, b.get? a = none ∧ a ∉ own.map (·.1) ∧ ¬ Priv env a ∧ ∃ q, s.heap.get? a = some q
  foot : ∀ a ∈ fp, a ∈ wr ∨ (∃ q, b.get? a = some q) ∨ a ∈ F.map (·.1)

/-- what a for walks over -/
noncomputable def Src (w : World) (H : Heap) (n : Nat) (env : Env) (ρ : Names) (own F : Own) (e : Expr) (ds : List V) (own' : Own) : Prop :=
  own'.map (·.1) = own.map (·.1) ∧ ∀ A b s, Rm n A → Loc w H env b s.heap ρ own →
    wpAny (Md w) A (eval e env) (fun x s₁ => wpAny (Md w) A (pyIter x) (fun it s₂ => ∃ b₂, Step own b s b₂ s₂ ∧ Loc w H env b₂ s₂.heap ρ own' ∧ ∃ I fp wr P St, it = .ref I ∧ (∀ a ∈ wr, s.heap.get? a = none) ∧ Wk w A env own' F b₂ s₂ ds I fp wr P St) NoE s₁) NoE s

/-- the iterator of a value -/
noncomputable def Itr (w : World) (H : Heap) (env : Env) (ρ : Names) (own : Own) (d : V) (ds : List V) : Prop :=
  ∀ A b s u, A.handled = none → Loc w H env b s.heap ρ own → VR w b d u → wpAny (Md w) A (pyIter u) (fun it s' => ∃ o fp P St, it = .ref s.heap.objs.size ∧ s' = { s with heap := s.heap.push o } ∧ o.isFreed = false ∧ Walks Pg w A s.heap.objs.size fp [s.heap.objs.size] ds.length P St ∧
    (∀ i v, P i v → ∃ d, ds[i]? = some d ∧ VR w b d v) ∧ St 0 s'.heap ∧ (∀ i h, St i h → ∃ q, h.get? s.heap.objs.size = some q) ∧ ∀ a ∈ fp, a = s.heap.objs.size ∨ (∃ q, b.get? a = some q) ∨ a ∈ own.map (·.1)) NoE s

theorem Loc.sublist {b h : Heap} {F : Own} (L : Loc w H env b h ρ own) (x : F.Sublist own) : Loc w H env b h ρ F :=
  ⟨L.ok, L.base, L.sub, L.frm, L.priv, fun p hp => L.ow p (x.subset hp), fun p hp => L.ownb p (x.subset hp), fun p hp => L.ownp p (x.subset hp), (x.map _).nodup L.nodup⟩
theorem Src.of {e : Expr} {d : V} {ds : List V} {F : Own} (x : Ev w H n env ρ o₀ e d o₁) (y : Itr w H env ρ F d ds) (hF : F.Sublist o₁) : Src w H n env ρ o₀ F e ds o₁ :=
  ⟨x.1, fun A b s rm L => wpAny_mono (x.run rm L) (fun u s₁ ⟨b₁, st₁, L₁, r₁⟩ => wpAny_mono (y A b₁ s₁ u rm.hd (L₁.sublist hF) r₁) (fun it s₂ h => by
    obtain ⟨o, fp, P, St, rfl, rfl, hf, W, hi, hs, hal, hfp⟩ := h
    have k : Le s₁.heap (s₁.heap.push o) := fun _ _ e => Heap.get?_push_of_some _ e
    have hn := get_size_none s₁.heap
    have live : ∀ a, (∃ q, s₁.heap.get? a = some q) → a ≠ s₁.heap.objs.size := fun a ⟨q, hq⟩ e => by rw [e, hn] at hq; cases hq
    obtain ⟨m, cm, F, hv⟩ := L₁.frm
    have hb : b₁.get? s₁.heap.objs.size = none := by
      cases e : b₁.get? s₁.heap.objs.size with
      | none => rfl
      | some q => have := L₁.sub _ _ e; rw [hn] at this; cases this
    have hs0 : s.heap.get? s₁.heap.objs.size = none := by
      cases e : s.heap.get? s₁.heap.objs.size with
      | none => rfl
      | some q => obtain ⟨q', hq'⟩ := st₁.live _ _ e; rw [hn] at hq'; cases hq'
    refine ⟨b₁, st₁.trans x.1 ⟨⟨_, _, rfl⟩, fun a o _ e => k _ _ e, fun a o e => ⟨o, k _ _ e⟩, Le.refl _, fun _ _ e => .inl e⟩, ⟨L₁.ok, L₁.base, L₁.sub.trans k, ⟨m, cm, F.keep fun a _ q e => k _ _ e, hv⟩, L₁.priv, fun p hp => (L₁.ow p hp).keep (Le.refl _) fun q e => k _ _ e, L₁.ownb, L₁.ownp, L₁.nodup⟩,
      s₁.heap.objs.size, fp, [s₁.heap.objs.size], P, St, rfl, fun a ha => by rw [List.mem_singleton.mp ha]; exact hs0, W, hi, hs, fun i h hst a ha => by rw [List.mem_singleton.mp ha]; exact hal i h hst, List.mem_singleton.mpr rfl, fun a ha => ?_, fun a ha => ?_⟩
    · rw [List.mem_singleton.mp ha]
      exact ⟨hb, fun hm => by obtain ⟨p, hp, e⟩ := List.mem_map.mp hm; exact live _ (L₁.ow p hp).live e, fun p => live _ (F.live p) rfl, _, Heap.get?_push_size _ hf⟩
    · rcases hfp a ha with h | h
      · exact .inl (List.mem_singleton.mpr h)
      · exact .inr h) fun _ _ f => f) fun _ _ f => f⟩

theorem own_foot {d : V} {ds : List V} {b : Heap} {s : Shared} {a : Addr} {vs : List Value} (L : Loc w H env b s.heap ρ own) (h : AsL own d ds) (r : VR w b d (.ref a)) : (∃ q, b.get? a = some q) ∨ a ∈ own.map (·.1) := by
  rcases h with rfl | ⟨c, rfl, hm⟩
  · simp only [VR] at r
    obtain ⟨a', _, e, ⟨o, _, ho, _⟩, _⟩ := r
    cases e; exact .inl ⟨o, ho⟩
  · simp only [VR] at r; cases r
    exact .inr (List.mem_map_of_mem hm)

theorem Itr.lst {d : V} {ds : List V} (h : AsL own d ds) : Itr w H env ρ own d ds := fun A b s u hh L r => by
  obtain ⟨a, vs, rfl, hl, hs⟩ := seeL L r h
  have hlt : a ≠ s.heap.objs.size := by obtain ⟨o, ho, _⟩ := hl; exact Nat.ne_of_lt (Heap.lt_size ho)
  refine wpAny_pyIter_list hl ?_
  refine ⟨_, [s.heap.objs.size, a], fun i v => vs.toArray[i]? = some v, fun i h => h.IsListIter s.heap.objs.size a i ∧ h.IsList a vs.toArray, rfl, rfl, rfl, ?_, ?_, ⟨⟨_, Heap.get?_push_size _ rfl, rfl, rfl⟩, let ⟨o, ho, q⟩ := hl; ⟨o, Heap.get?_push_of_some _ ho, q⟩⟩, fun i h hst => let ⟨o, ho, _⟩ := hst.1; ⟨o, ho⟩, fun c hc => ?_⟩
  · have W := Walks.list (prog := Pg) (w := w) hh s.heap.objs.size a hlt vs.toArray
    rw [show vs.toArray.size = ds.length by simp [hs.length]] at W
    exact W
  · intro i v hv
    exact hs.get' (by simpa using hv)
  · simp only [List.mem_cons, List.not_mem_nil, or_false] at hc
    rcases hc with rfl | rfl
    · exact .inl rfl
    · exact .inr (own_foot (vs := vs) L h r)

theorem Itr.tup {ds : List V} : Itr w H env ρ own (.tup ds) ds := fun A b s u hh L r => by
  have hb : ∃ a q, u = .ref a ∧ b.get? a = some q := by
    simp only [VR] at r
    obtain ⟨a, _, e, ⟨o, ho, _⟩, _⟩ := r
    exact ⟨a, o, e, ho⟩
  obtain ⟨a, vs, rfl, hl, hs⟩ := seeT L r
  obtain ⟨_, q, e, hq⟩ := hb
  cases e
  have hlt : a ≠ s.heap.objs.size := by obtain ⟨o, ho, _⟩ := hl; exact Nat.ne_of_lt (Heap.lt_size ho)
  refine wpAny_pyIter_tuple hl ?_
  refine ⟨_, [s.heap.objs.size, a], fun i v => vs.toArray[i]? = some v, fun i h => h.IsTupleIter s.heap.objs.size a i ∧ h.IsTuple a vs.toArray, rfl, rfl, rfl, ?_, ?_, ⟨⟨_, Heap.get?_push_size _ rfl, rfl, rfl⟩, let ⟨o, ho, q⟩ := hl; ⟨o, Heap.get?_push_of_some _ ho, q⟩⟩, fun i h hst => let ⟨o, ho, _⟩ := hst.1; ⟨o, ho⟩, fun c hc => ?_⟩
  · have W := Walks.tuple (prog := Pg) (w := w) hh s.heap.objs.size a hlt vs.toArray
    rw [show vs.toArray.size = ds.length by simp [hs.length]] at W
    exact W
  · intro i v hv
    exact hs.get' (by simpa using hv)
  · simp only [List.mem_cons, List.not_mem_nil, or_false] at hc
    rcases hc with rfl | rfl
    · exact .inl rfl
    · exact .inr (.inl ⟨q, hq⟩)

theorem VRp.get {b : Heap} : ∀ {ds : List (Str × V)} {vs : List (Str × Value)} {i : Nat} {k : Str} {v : Value}, VRp w b ds vs → vs[i]? = some (k, v) → (ds.map (·.1))[i]? = some k
  | (x, d) :: ds, (y, u) :: vs, 0, k, v, h, e => by simp only [VRp] at h; simp at e; simp [← e.1, h.1]
  | (x, d) :: ds, (y, u) :: vs, i + 1, k, v, h, e => by simp only [VRp] at h; simp at e ⊢; have := VRp.get h.2.2 e; simpa using this
  | [], [], _, _, _, _, e => by simp at e
  | [], _ :: _, _, _, _, h, _ => by simp [VRp] at h
  | _ :: _, [], _, _, _, h, _ => by simp [VRp] at h

theorem Itr.dct {d : V} {kvs : List (Str × V)} (h : AsD own d kvs) : Itr w H env ρ own d (kvs.map fun p => .str p.1) := fun A b s u hh L r => by
  have hft : ∀ a, u = .ref a → (∃ q, b.get? a = some q) ∨ a ∈ own.map (·.1) := fun a e => by
    subst e
    rcases h with rfl | ⟨c, rfl, hm⟩
    · simp only [VR] at r
      obtain ⟨a', _, e, _, ⟨o, _, _, ho, _⟩, _⟩ := r
      cases e; exact .inl ⟨o, ho⟩
    · simp only [VR] at r; cases r
      exact .inr (List.mem_map_of_mem hm)
  obtain ⟨a, kv, rfl, hm, hd, hs⟩ := seeD L r h
  obtain ⟨ep, hA⟩ := hd.dictAt
  have hlt : a ≠ s.heap.objs.size := Nat.ne_of_lt hA.lt_size
  refine wpAny_pyIter_dict hm hA ?_
  refine ⟨_, [s.heap.objs.size, a], fun i v => ∃ k x, kv[i]? = some (k, x) ∧ (SK w).is k v = true, fun i h => h.IsKeyIter s.heap.objs.size a i kv.length ep ∧ h.DictAt (SK w) a kv ep, rfl, rfl, rfl, ?_, ?_, ⟨⟨_, Heap.get?_push_size _ rfl, rfl, rfl⟩, hA.push _⟩, fun i h hst => let ⟨o, ho, _⟩ := hst.1; ⟨o, ho⟩, fun c hc => ?_⟩
  · have W := Walks.dictKeys (prog := Pg) (w := w) (knd := SK w) hh s.heap.objs.size a hlt kv ep
    have e : kv.length = (kvs.map fun p => V.str p.1).length := by simp [hs.length]
    rw [← e]
    exact W
  · rintro i v ⟨k, x, hx, hv⟩
    have := hs.get hx
    refine ⟨.str k, ?_, ?_⟩
    · rw [List.getElem?_map] at this ⊢
      cases e : kvs[i]? with
      | none => rw [e] at this; cases this
      | some p => rw [e] at this; simp at this; simp [this]
    · obtain ⟨t, rfl⟩ := Value.isStrOf_shape hv
      exact ⟨t, rfl⟩
  · simp only [List.mem_cons, List.not_mem_nil, or_false] at hc
    rcases hc with rfl | rfl
    · exact .inl rfl
    · exact .inr (hft _ rfl)

noncomputable def upto (n : Nat) : List V := (List.range n).map fun (i : Nat) => V.int (i : Int)
theorem Itr.rng {k : Nat} (hk : k < 1000000) : Itr w H env ρ own (.rng 0 k) (upto k) := fun A b s u hh L r => by
  simp only [VR] at r
  obtain ⟨x, t₁, t₂, t₃, rfl, hr⟩ := r
  have hsz : Builtin.Range.rangeSize 0 k 1 = (k : Int) := by
    rw [rangeSize_one]
    split <;> (first | assumption | exact Nat.le_of_ble_eq_true rfl | exact Nat.add_le_add_left (Nat.le_of_ble_eq_true rfl) _ | exact Nat.le_trans (by assumption) (Nat.le_of_ble_eq_true rfl) | lia | omega)
  have hsm : Builtin.Range.small 0 k 1 = true := by
    unfold Builtin.Range.small
    rw [hsz]
    simp [Builtin.Range.rangeFitsLong]
    (first | assumption | exact Nat.le_of_ble_eq_true rfl | exact Nat.add_le_add_left (Nat.le_of_ble_eq_true rfl) _ | exact Nat.le_trans (by assumption) (Nat.le_of_ble_eq_true rfl) | lia | omega)
  have W : Walks Pg w A s.heap.objs.size [s.heap.objs.size] [s.heap.objs.size] (upto k).length (fun i v => i < k ∧ ∃ t, v = .int (0 + i * 1) t)
      (fun i h => IsRangeIter h s.heap.objs.size (0 + (i : Nat) * 1) ((k : Int) - (i : Nat)) 1) := by
    rw [show (upto k).length = k by simp [upto]]
    exact (Walks.range hh _ 0 1 k).bound
  refine wpAny_pyIter_range (L.sub _ _ hr) hsm ?_
  refine ⟨_, [s.heap.objs.size], _, _, rfl, rfl, rfl, W, ?_, ?_, fun i h hst => ⟨_, hst⟩, fun c hc => .inl (by simpa using hc)⟩
  · rintro i v ⟨hi, t, rfl⟩
    exact ⟨.int i, by simp [upto, hi], t, by simp⟩
  · show IsRangeIter _ _ _ _ _
    rw [hsz]
    simpa using Heap.get?_push_size s.heap rfl

noncomputable def signs (x : Str) : List V := x.cps.toList.map fun c => .str ⟨#[c]⟩
theorem Itr.str {x : Str} : Itr w H env ρ own (.str x) (signs x) := fun A b s u hh L r => by
  obtain ⟨t, rfl⟩ := r
  have hi : ∀ i v, SignAt x i v → ∃ d, (signs x)[i]? = some d ∧ VR w b d v := by
    rintro i v ⟨c, u, hc, rfl⟩
    exact ⟨.str ⟨#[c]⟩, by simp [signs, hc], u, rfl⟩
  have hl : (signs x).length = x.cps.size := by simp [signs]
  cases ha : x.cps.all (· < 128)
  · refine wpAny_pyIter_wide ha ?_
    exact ⟨_, [s.heap.objs.size], SignAt x, fun i h => h.IsStrIter s.heap.objs.size "str_iterator" x t i, rfl, rfl, rfl, by rw [hl]; exact Walks.strWide hh _ x t, hi, ⟨_, Heap.get?_push_size _ rfl, rfl, rfl⟩, fun i h hst => let ⟨o, ho, _⟩ := hst; ⟨o, ho⟩, fun c hc => .inl (by simpa using hc)⟩
  · refine wpAny_pyIter_ascii ha ?_
    exact ⟨_, [s.heap.objs.size], SignAt x, fun i h => h.IsStrIter s.heap.objs.size "str_ascii_iterator" x t i, rfl, rfl, rfl, by rw [hl]; exact Walks.strAscii hh _ x t, hi, ⟨_, Heap.get?_push_size _ rfl, rfl, rfl⟩, fun i h hst => let ⟨o, ho, _⟩ := hst; ⟨o, ho⟩, fun c hc => .inl (by simpa using hc)⟩
end
end Mine
end
section
open PySem PySem.W PyProof.Rows PySem.MeetsSeq PySem.SeqAt
namespace Mine

section
variable {w : World} {H : Heap} {n : Nat} {pk : List Addr} {env : Env} {ρ : Names} {o₀ o₁ o₂ o₃ own own₁ : Own} {N : Names → Own → Prop} {R : V → Own → Prop} {sts : List Stmt} {st : Stmt}

/-- the place of a name -/
noncomputable def Plc (env : Env) (x : Str) (a : Addr) : Prop := (env.kindOf x = some .local ∧ a = env.locals) ∨ (env.kindOf x = some .cell ∧ env.cells.lookup x = some a)
theorem Plc.priv {x : Str} {a : Addr} (p : Plc env x a) : Priv env a := by
  rcases p with ⟨_, rfl⟩ | ⟨_, h⟩
  · exact .inl rfl
  · exact .inr ⟨_, h⟩

/-- a change at places that nobody looks at -/
theorem Loc.other {b h h' : Heap} {wr : List Addr} (L : Loc w H env b h ρ own) (k : ∀ a o, a ∉ wr → h.get? a = some o → h'.get? a = some o) (hw : ∀ a ∈ wr, b.get? a = none ∧ a ∉ own.map (·.1) ∧ ¬ Priv env a) : Loc w H env b h' ρ own := by
  obtain ⟨m, cm, F, hv⟩ := L.frm
  refine ⟨L.ok, L.base, fun a o e => k a o (fun ha => ?_) (L.sub a o e), ⟨m, cm, F.keep fun a p q e => k a q (fun ha => (hw a ha).2.2 p) e, hv⟩, L.priv, fun p hp => (L.ow p hp).keep (Le.refl _) fun q e => k _ q (fun ha => (hw _ ha).2.1 (List.mem_map_of_mem hp)) e, L.ownb, L.ownp, L.nodup⟩
  rw [(hw a ha).1] at e; cases e

theorem wp_store {A : Around} {E : Value → Shared → Prop} {b : Heap} {s : Shared} {x : Str} {d : V} {v : Value} {Q : Unit → Shared → Prop} (L : Loc w H env b s.heap ρ own) (hx : Storable env x) (r : VR w b d v)
    (h : ∀ h' k a, Plc env x a → Heap.SameBut a s.heap h' → (∃ q, h'.get? a = some q) → Loc w H env b h' (upd ρ x d) own → Q () { s with heap := h', toks := k }) : wpAny (Md w) A (storeName env x v) Q E s := by
  have main : ∀ h' a, Plc env x a → Heap.SameBut a s.heap h' → (∃ m cm, Fm env h' m cm ∧ ∀ y e, upd ρ x d y = some e → ∃ v, nameVal env m cm y = some v ∧ VR w b e v) → Loc w H env b h' (upd ρ x d) own := fun h' a pl hs hf => by
    have ext : ∀ c o, c ≠ a → s.heap.get? c = some o → h'.get? c = some o := fun c o hc e => (hs.2 c hc).trans e
    refine ⟨L.ok, L.base, fun c o e => ext c o (fun e' => ?_) (L.sub c o e), hf, L.priv, fun p hp => (L.ow p hp).keep (Le.refl _) fun q e => ext _ q (fun e' => L.ownp p hp (e' ▸ pl.priv)) e, L.ownb, L.ownp, L.nodup⟩
    rw [e', L.priv a pl.priv] at e; cases e
  obtain ⟨m, cm, F, hv⟩ := L.frm
  rcases hx with hl | ⟨hc, hl⟩
  · refine wpAny_storeName_local hl F.ns (fun h' hn hs => h _ _ _ (.inl ⟨hl, rfl⟩) hs (by obtain ⟨o, _, _, ho, _⟩ := hn; exact ⟨o, ho⟩) (main _ _ (.inl ⟨hl, rfl⟩) hs ⟨_, cm, ⟨hn, fun y c hy => (F.cell y c hy).sameBut hs (Ne.symm (F.ne y c hy)), F.apart, F.ne⟩, fun y e hy => ?_⟩)) (by rw [L.ok.fn]; rfl)
    by_cases hyx : y = x
    · subst hyx; rw [upd_here] at hy; cases hy; exact ⟨v, by simp [nameVal, hl], r⟩
    · rw [upd_there hyx] at hy
      obtain ⟨u, h1, h2⟩ := hv y e hy
      refine ⟨u, ?_, h2⟩
      simpa [nameVal, hyx] using h1
  · obtain ⟨c, hc'⟩ := Option.isSome_iff_exists.mp hl
    refine wpAny_storeName_cell L.ok.fn hc hc' (F.cell x c hc') fun h' hn hs => ?_
    have hL : env.locals ≠ c := F.ne x c hc'
    refine h _ s.toks c (.inr ⟨hc, hc'⟩) hs (by obtain ⟨o, ho, _⟩ := hn; exact ⟨o, ho⟩) (main _ _ (.inr ⟨hc, hc'⟩) hs ⟨m, fun y => if y = x then some v else cm y, ⟨F.ns.sameBut hs hL, fun y c' hy => ?_, F.apart, F.ne⟩, fun y e hy => ?_⟩)
    · by_cases hyx : y = x
      · subst hyx; rw [hc'] at hy; cases hy; simpa using hn
      · simp only [hyx, if_false]
        exact (F.cell y c' hy).sameBut hs fun e => hyx (name_of_addr F.apart (mem_of_lookup hy) (e ▸ mem_of_lookup hc'))
    · by_cases hyx : y = x
      · subst hyx; rw [upd_here] at hy; cases hy
        have hnl : ¬ env.kindOf y = some .local := by rw [hc]; decide
        exact ⟨v, by simp [nameVal, hc, hc'], r⟩
      · rw [upd_there hyx] at hy
        obtain ⟨u, h1, h2⟩ := hv y e hy
        refine ⟨u, ?_, h2⟩
        simpa [nameVal, hyx] using h1

/-- since the start of a loop -/
structure Kp (o₀ : Own) (b₀ : Heap) (s₀ : Shared) (wr : List Addr) (s₂ : Shared) (b : Heap) (s : Shared) : Prop where
  st : Step o₀ b₀ s₀ b s
  kp : ∀ a o, a ∉ wr → s₂.heap.get? a = some o → s.heap.get? a = some o
  nw : ∀ a, (a ∈ wr ∨ s₂.heap.get? a = none) → s₀.heap.get? a = none

theorem Step.more {b b₁ b₂ : Heap} {s s₁ s₂ : Shared} (st : Step own b s b₁ s₁) (st' : Step [] b₁ s₁ b₂ s₂) : Step own b s b₂ s₂ where
  same := by
    obtain ⟨h', t', rfl⟩ := st.same
    obtain ⟨h'', t'', rfl⟩ := st'.same
    exact ⟨h'', t'', rfl⟩
  keep := fun a o ha e => st'.keep a o (by simp) (st.keep a o ha e)
  live := fun a o e => let ⟨q, hq⟩ := st.live a o e; st'.live a q hq
  grow := st.grow.trans st'.grow
  fresh := fun a o e => by
    rcases st'.fresh a o e with h | h
    · exact st.fresh a o h
    · right
      cases hs : s.heap.get? a with
      | none => rfl
      | some q => obtain ⟨q', hq'⟩ := st.live a q hs; rw [hq'] at h; cases h
theorem Kp.chg {o₀ : Own} {wr : List Addr} {b₀ b : Heap} {s₀ s₂ s' : Shared} {h : Heap} {t : Nat} (K : Kp o₀ b₀ s₀ wr s₂ b s') (c : List Addr) (k : ∀ a o, a ∉ c → s'.heap.get? a = some o → h.get? a = some o) (hc : ∀ a ∈ c, a ∈ wr ∨ s₂.heap.get? a = none) : Kp o₀ b₀ s₀ wr s₂ b { s' with heap := h, toks := t } := by
  have n0 : ∀ a o, s₀.heap.get? a = some o → a ∉ c := fun a o e hm => by rw [K.nw a (hc a hm)] at e; cases e
  refine ⟨⟨?_, fun a o ha e => k a o (n0 a o e) (K.st.keep a o ha e), fun a o e => ?_, K.st.grow, K.st.fresh⟩, fun a o ha e => k a o (fun hm => ?_) (K.kp a o ha e), K.nw⟩
  · obtain ⟨h', t', rfl⟩ := K.st.same; exact ⟨h, t, rfl⟩
  · obtain ⟨q, hq⟩ := K.st.live a o e; exact ⟨q, k a q (n0 a o e) hq⟩
  · rcases hc a hm with h1 | h1
    · exact ha h1
    · rw [h1] at e; cases e
theorem Kp.more {o₀ : Own} {wr : List Addr} {b₀ b b' : Heap} {s₀ s₂ s s' : Shared} (K : Kp o₀ b₀ s₀ wr s₂ b s) (st : Step [] b s b' s') : Kp o₀ b₀ s₀ wr s₂ b' s' :=
  ⟨K.st.more st, fun a o ha e => st.keep a o (by simp) (K.kp a o ha e), K.nw⟩
theorem Step.old {b b' : Heap} {s s' : Shared} (st : Step [] b s b' s') {a : Addr} {o : Obj} (e : s.heap.get? a = some o) : s'.heap.get? a = some o := st.keep a o (by simp) e

/-- several tests, as a comprehension has them -/
noncomputable def Tst (w : World) (H : Heap) (n : Nat) (env : Env) (ρ : Names) (ifs : List Expr) (q : Bool) : Prop :=
  ∀ A b s, Rm n A → Loc w H env b s.heap ρ [] → wpAny (Md w) A (forIn ifs true fun c r => if r = true then do let ok ← isTrue c env (eval c env); pure (ForInStep.yield ok) else pure (ForInStep.yield r)) (Pb w H env ρ [] b s [] q) NoE s
theorem Tst.nil : Tst w H n env ρ [] true := fun _ _ s _ L => wpAny_tests_nil ⟨rfl, _, Step.refl, L⟩
theorem Tst.one {c : Expr} {q : Bool} (x : Te w H n env ρ [] c q []) : Tst w H n env ρ [c] q := fun _ _ s rm L => wpAny_tests_one (x.run rm L)

noncomputable def compE (scope : Scope) (cl : List (Str × Addr)) (C : Addr) (env : Env) : Env := { compEnvC scope cl C env with cells := cellsFrom (C + 1) scope.names cl }

theorem upd_upd {ρ ρ' : Names} {x : Str} {d : V} (h : ∀ y, y ≠ x → ρ' y = ρ y) : upd ρ' x d = upd ρ x d := funext fun y => by
  by_cases hy : y = x
  · subst hy; rw [upd_here, upd_here]
  · rw [upd_there hy, upd_there hy, h y hy]

theorem comp_loop {A : Around} {cenv : Env} {elt iter : Expr} {x : Str} {px : Pos} {ifs : List Expr} {scope : Scope} {pos : Pos} {I D : Addr} {fp wr : List Addr} {ds : List V} {P : Nat → Value → Prop} {St : Nat → Heap → Prop} {b₀ b : Heap} {s₀ s₂ s : Shared} {Rr : Result → Shared → Prop} {p : V → Bool} {f : V → V}
    (rm : Rm n A) (W : Walks Pg w A I fp wr ds.length P St) (item : ∀ i v, P i v → ∃ d, ds[i]? = some d ∧ VR w b d v) (alive : ∀ i h, St i h → ∀ a ∈ wr, ∃ q, h.get? a = some q)
    (hx : Storable cenv x) (hpl : ∀ a, Plc cenv x a → s₂.heap.get? a = none) (hst : St 0 s.heap) (hacc : s.heap.PlainList D #[]) (hDb : b.get? D = none) (hDw : D ∉ wr) (hDp : ¬ Priv cenv D) (hD0 : s₂.heap.get? D = none)
    (L : Loc w H cenv b s.heap ρ []) (hst2 : Kp o₀ b₀ s₀ wr s₂ b s) (hwr : ∀ a ∈ wr, b.get? a = none ∧ ¬ Priv cenv a) (hfp : ∀ a ∈ fp, a ∈ wr ∨ ∃ q, b.get? a = some q) (hsz : ds.length ≤ 10000)
    (tests : ∀ d ∈ ds, Tst w H n cenv (upd ρ x d) ifs (p d)) (helt : ∀ d ∈ ds, p d = true → Ev w H n cenv (upd ρ x d) [] elt (f d) [])
    (hR : ∀ b' s' ρ' vs, Kp o₀ b₀ s₀ wr s₂ b' s' → Loc w H cenv b' s'.heap ρ' [] → s'.heap.PlainList D (List.toArray vs) → VRs w b' ((ds.filter p).map f) vs → b'.get? D = none → Rr (.ok .next) s') :
    codeAny (Md w) A (.compLoop (.ListComp elt [⟨.Name x px, iter, ifs, 0⟩] scope pos) 0 (.ref I) (.ref D) cenv) Rr s := by
  refine codeAny_compLoop_tests
    (fun k s' => ∃ i b' ρ' vs, i ≤ ds.length ∧ k = ds.length + 1 - i ∧ Kp o₀ b₀ s₀ wr s₂ b' s' ∧ Le b b' ∧ Loc w H cenv b' s'.heap ρ' [] ∧ (∀ y, y ≠ x → ρ' y = ρ y) ∧ St i s'.heap ∧ s'.heap.PlainList D (List.toArray vs) ∧ VRs w b' (((ds.take i).filter p).map f) vs ∧ b'.get? D = none ∧ (∀ a ∈ wr, b'.get? a = none)) ?_ (ds.length + 1)
    ⟨0, b, ρ, [], Nat.zero_le _, rfl, hst2, Le.refl _, L, fun _ _ => rfl, hst, hacc, by simp [VRs], hDb, fun a ha => (hwr a ha).1⟩
  rintro k s' ⟨i, b', ρ', vs, hi, rfl, st', le', L', hρ, hst', hD', hV, hDb', hwr'⟩
  have hwp : ∀ a ∈ wr, b'.get? a = none ∧ a ∉ ([] : Own).map (·.1) ∧ ¬ Priv cenv a := fun a ha => ⟨hwr' a ha, by simp, (hwr a ha).2⟩
  by_cases hlt : i < ds.length
  · refine W.item i _ _ _ hlt hst' fun v h₁ tk₁ hPv hst₁ hk₁ => ?_
    obtain ⟨d, hd, rv⟩ := item i v hPv
    have hdm : d ∈ ds := List.mem_iff_getElem?.mpr ⟨i, hd⟩
    have L₁ : Loc w H cenv b' h₁ ρ' [] := L'.other hk₁ hwp
    have st₁ := st'.chg (h := h₁) (t := tk₁) wr hk₁ fun a ha => .inl ha
    refine wpAny_assign_Name (wp_store (s := { s' with heap := h₁, toks := tk₁ }) L₁ hx (rv.mono le') fun h₂ tk₂ c hc hs₂ hl₂ L₂ => ?_)
    rw [upd_upd hρ] at L₂
    have cw : c ∉ wr := fun hm => (hwr c hm).2 hc.priv
    have st₂ := st₁.chg (h := h₂) (t := tk₂) [c] (fun a o ha e => hs₂.extBut a o (by simpa using ha) e) fun a ha => by rw [List.mem_singleton.mp ha]; exact .inr (hpl c hc)
    have cfp : c ∉ fp := fun hm => by
      rcases hfp c hm with h | ⟨q, hq⟩
      · exact cw h
      · have := le' _ _ hq; rw [L'.priv c hc.priv] at this; cases this
    have hst₂ : St (i + 1) h₂ := W.frame _ _ _ hst₁ fun a ha o e => hs₂.extBut a o (fun e' => cfp (e' ▸ ha)) e
    have hD₂ : h₂.PlainList D (List.toArray vs) := hD'.at fun o e => hs₂.extBut D o (fun e' => hDp (e' ▸ hc.priv)) (hk₁ D o hDw e)
    refine wpAny_mono (wp_any (tests d hdm A b' _ rm L₂)) (fun ok s₃ h₃ => ?_) fun _ _ e => e
    obtain ⟨rfl, b₃, st₃, L₃⟩ := h₃
    have st₃' := st₂.more st₃
    have hst₃ : St (i + 1) s₃.heap := W.frame _ _ _ hst₂ fun a _ o e => st₃.old e
    have hD₃ : s₃.heap.PlainList D (List.toArray vs) := hD₂.at fun o e => st₃.old e
    have nD₃ : b₃.get? D = none := st₃.none hDb' (by obtain ⟨k, hk⟩ := hD₂; exact ⟨_, hk⟩)
    have nw₃ : ∀ a ∈ wr, b₃.get? a = none := fun a ha => st₃.none (hwr' a ha) (alive _ _ hst₂ a ha)
    have hρ' : ∀ y, y ≠ x → upd ρ x d y = ρ y := fun y hy => upd_there hy
    have htake : ds.take (i + 1) = ds.take i ++ [d] := by rw [List.take_add_one, hd]; rfl
    cases hp : p d with
    | false =>
      simp only [Bool.false_eq_true, if_false]
      refine ⟨ds.length + 1 - (i + 1), by (first | assumption | exact Nat.le_of_ble_eq_true rfl | exact Nat.add_le_add_left (Nat.le_of_ble_eq_true rfl) _ | exact Nat.le_trans (by assumption) (Nat.le_of_ble_eq_true rfl) | lia | omega), i + 1, b₃, _, vs, hlt, rfl, st₃', le'.trans st₃.grow, L₃, hρ', hst₃, hD₃, ?_, nD₃, nw₃⟩
      rw [htake, List.filter_append, List.map_append]
      simpa [hp] using hV.mono st₃.grow
    | true =>
      simp only [if_true]
      refine wpAny_mono (wp_any ((helt d hdm hp).run rm L₃)) (fun y s₄ h₄ => ?_) fun _ _ e => e
      obtain ⟨b₄, st₄, L₄, r₄⟩ := h₄
      have hst₄ : St (i + 1) s₄.heap := W.frame _ _ _ hst₃ fun a _ o e => st₄.old e
      have hD₄ : s₄.heap.PlainList D (List.toArray vs) := hD₃.at fun o e => st₄.old e
      have nD₄ : b₄.get? D = none := st₄.none nD₃ (by obtain ⟨k, hk⟩ := hD₃; exact ⟨_, hk⟩)
      have nw₄ : ∀ a ∈ wr, b₄.get? a = none := fun a ha => st₄.none (nw₃ a ha) (alive _ _ hst₃ a ha)
      have hsz' : vs.toArray.size ≤ sizeLine := by
        have := hV.length
        rw [List.length_map] at this
        have h2 := List.length_filter_le p (ds.take i)
        rw [List.length_take] at h2
        rw [List.size_toArray, sizeLine_eq]; (first | assumption | exact Nat.le_of_ble_eq_true rfl | exact Nat.add_le_add_left (Nat.le_of_ble_eq_true rfl) _ | exact Nat.le_trans (by assumption) (Nat.le_of_ble_eq_true rfl) | lia | omega)
      refine wpAny_list_append_plain (hsz := hsz') hD₄ fun h₅ hl₅ hs₅ => ?_
      have Dfp : D ∉ fp := fun hm => by
        rcases hfp D hm with h | ⟨q, hq⟩
        · exact hDw h
        · rw [hDb] at hq; cases hq
      refine ⟨ds.length + 1 - (i + 1), by (first | assumption | exact Nat.le_of_ble_eq_true rfl | exact Nat.add_le_add_left (Nat.le_of_ble_eq_true rfl) _ | exact Nat.le_trans (by assumption) (Nat.le_of_ble_eq_true rfl) | lia | omega), i + 1, b₄, _, vs ++ [y], hlt, rfl, (st₃'.more st₄).chg (t := s₄.toks) [D] (fun a o ha e => hs₅.extBut a o (by simpa using ha) e) (fun a ha => by rw [List.mem_singleton.mp ha]; exact .inr hD0), (le'.trans st₃.grow).trans st₄.grow,
        L₄.other (wr := [D]) (fun a o ha e => hs₅.extBut a o (by simpa using ha) e) (fun a ha => by rw [List.mem_singleton.mp ha]; exact ⟨nD₄, by simp, hDp⟩), hρ', W.frame _ _ _ hst₄ fun a ha o e => hs₅.extBut a o (fun e' => Dfp (e' ▸ ha)) e, by simpa using hl₅, ?_, nD₄, nw₄⟩
      rw [htake, List.filter_append, List.map_append]
      refine (hV.mono (st₃.grow.trans st₄.grow)).append ?_
      simpa [hp, VRs] using r₄
  · have hin : i = ds.length := by (first | assumption | exact Nat.le_of_ble_eq_true rfl | exact Nat.add_le_add_left (Nat.le_of_ble_eq_true rfl) _ | exact Nat.le_trans (by assumption) (Nat.le_of_ble_eq_true rfl) | lia | omega)
    refine W.done _ _ _ (hin ▸ hst') fun h₁ tk₁ hk₁ => ?_
    exact hR b' _ ρ' vs (st'.chg wr hk₁ fun a ha => .inl ha) (L'.other hk₁ hwp) (hD'.at fun o e => hk₁ D o hDw e) (by rw [hin, List.take_length] at hV; exact hV) hDb'
end
end Mine
end
section
open PySem PySem.W PyProof.Rows PySem.MeetsSeq PySem.SeqAt
namespace Mine

noncomputable def capt (env : Env) : List (Str × NameKind) → List (Str × Addr) → List (Str × Addr)
  | [], cs => cs
  | (x, k) :: r, cs => capt env r (if k == .free then (x, (env.cells.lookup x).getD 0) :: cs else cs)

theorem capt_loop {env : Env} (f : Str × NameKind → List (Str × Addr) → Sem (ForInStep (List (Str × Addr))))
    (hf : ∀ x k cs, f (x, k) cs = if k == .free then (do let a ← cellOf env x; pure (.yield ((x, a) :: cs))) else pure (.yield cs)) :
    ∀ (names : List (Str × NameKind)) (cs : List (Str × Addr)), (∀ x ∈ names, x.2 = .free → (env.cells.lookup x.1).isSome = true) → forIn names cs f = (pure (capt env names cs) : Sem _)
  | [], cs, _ => by rw [List.forIn_nil]; rfl
  | (x, k) :: r, cs, h => by
    have ih := fun cs => capt_loop f hf r cs fun y hy => h y (.tail _ hy)
    rw [List.forIn_cons, hf]
    unfold capt
    by_cases hk : (k == NameKind.free) = true
    · rw [if_pos hk, if_pos hk]
      have hs := h (x, k) (.head _) (by simpa using hk)
      obtain ⟨a, ha⟩ := Option.isSome_iff_exists.mp hs
      have e : cellOf env x = pure a := by unfold cellOf; dsimp only at ha; rw [ha]
      rw [e, ha]
      exact ih _
    · rw [if_neg hk, if_neg hk]
      exact ih _
theorem closureFor_eq {scope : Scope} {env : Env} (h : ∀ x ∈ scope.names, x.2 = .free → (env.cells.lookup x.1).isSome = true) : closureFor scope env = pure (capt env scope.names []) := by
  unfold closureFor
  dsimp only
  rw [capt_loop (env := env) _ (fun x k cs => by cases hk : k == NameKind.free <;> simp [hk]) scope.names [] h]
  rfl
theorem capt_mem {env : Env} {x : Str} {c : Addr} : ∀ {names : List (Str × NameKind)} {cs : List (Str × Addr)}, (x, c) ∈ capt env names cs → (∀ y ∈ names, y.2 = .free → (env.cells.lookup y.1).isSome = true) → (x, c) ∈ cs ∨ ((x, .free) ∈ names ∧ env.cells.lookup x = some c)
  | [], cs, h, _ => .inl h
  | (y, k) :: r, cs, h, hs => by
    unfold capt at h
    rcases capt_mem h fun y hy => hs y (.tail _ hy) with h1 | ⟨h1, h2⟩
    · by_cases hk : (k == NameKind.free) = true
      · rw [if_pos hk] at h1
        have hk' : k = .free := by simpa using hk
        rcases List.mem_cons.mp h1 with e | h1
        · cases e
          obtain ⟨a, ha⟩ := Option.isSome_iff_exists.mp (hs (x, k) (.head _) hk')
          dsimp only at ha
          right
          rw [ha]
          exact ⟨by rw [hk']; exact .head _, rfl⟩
        · exact .inl h1
      · rw [if_neg hk] at h1; exact .inl h1
    · exact .inr ⟨.tail _ h1, h2⟩
theorem capt_apart {env : Env} (ha : env.cells.Pairwise fun x y => x.2 ≠ y.2) : ∀ {names : List (Str × NameKind)} {cs : List (Str × Addr)}, (names.map (·.1)).Nodup → (∀ y ∈ names, y.2 = .free → (env.cells.lookup y.1).isSome = true) →
    (cs.Pairwise fun x y => x.2 ≠ y.2) → (∀ x ∈ cs, env.cells.lookup x.1 = some x.2 ∧ x.1 ∉ names.map (·.1)) → (capt env names cs).Pairwise fun x y => x.2 ≠ y.2
  | [], cs, _, _, hp, _ => hp
  | (y, k) :: r, cs, hn, hs, hp, hc => by
    simp only [List.map_cons, List.nodup_cons] at hn
    unfold capt
    refine capt_apart ha hn.2 (fun z hz => hs z (.tail _ hz)) ?_ ?_
    · by_cases hk : (k == NameKind.free) = true
      · rw [if_pos hk]
        obtain ⟨a, ha'⟩ := Option.isSome_iff_exists.mp (hs (y, k) (.head _) (by simpa using hk))
        dsimp only at ha'
        rw [ha']
        refine List.pairwise_cons.mpr ⟨fun z hz e => ?_, hp⟩
        have := hc z hz
        have e' : z.2 = a := e.symm
        have : z.1 = y := name_of_addr ha (mem_of_lookup this.1) (e' ▸ mem_of_lookup ha')
        exact (hc z hz).2 (by rw [this]; simp)
      · rw [if_neg hk]; exact hp
    · intro x hx
      by_cases hk : (k == NameKind.free) = true
      · rw [if_pos hk] at hx
        obtain ⟨a, ha'⟩ := Option.isSome_iff_exists.mp (hs (y, k) (.head _) (by simpa using hk))
        dsimp only at ha'
        rcases List.mem_cons.mp hx with e | hx
        · subst e; dsimp only; rw [ha']; exact ⟨rfl, hn.1⟩
        · exact ⟨(hc x hx).1, fun hm => (hc x hx).2 (by simp at hm ⊢; exact .inr hm)⟩
      · rw [if_neg hk] at hx
        exact ⟨(hc x hx).1, fun hm => (hc x hx).2 (by simp at hm ⊢; exact .inr hm)⟩

theorem pushCells_mem : ∀ (names : List (Str × NameKind)) (h : Heap) (acc : List (Str × Addr)) (x : Str × Addr), x ∈ cellsFrom h.objs.size names acc → x ∈ acc ∨ (h.objs.size ≤ x.2 ∧ (pushCells h names).IsCell x.2 none)
  | [], _, _, _, hm => .inl hm
  | (y, k) :: r, h, acc, x, hm => by
    unfold cellsFrom at hm
    unfold pushCells
    by_cases hk : (k == NameKind.cell) = true
    · rw [if_pos hk] at hm ⊢
      have e := Heap.size_push h { cls := .type "cell", data := .cell none }
      rw [← e] at hm
      rcases pushCells_mem r _ _ _ hm with h1 | ⟨h1, h2⟩
      · rcases List.mem_cons.mp h1 with rfl | h1
        · exact .inr ⟨Nat.le_refl _, ⟨_, pushCells_keeps _ _ _ _ (Heap.get?_push_size _ rfl), rfl⟩⟩
        · exact .inl h1
      · exact .inr ⟨by rw [e] at h1; (first | assumption | exact Nat.le_of_ble_eq_true rfl | exact Nat.add_le_add_left (Nat.le_of_ble_eq_true rfl) _ | exact Nat.le_trans (by assumption) (Nat.le_of_ble_eq_true rfl) | lia | omega), h2⟩
    · rw [if_neg hk] at hm ⊢
      exact pushCells_mem r h acc x hm
theorem cellsFrom_apart : ∀ (names : List (Str × NameKind)) (k : Nat) (acc : List (Str × Addr)), (acc.Pairwise fun x y => x.2 ≠ y.2) → (∀ x ∈ acc, x.2 < k) → (cellsFrom k names acc).Pairwise fun x y => x.2 ≠ y.2
  | [], _, _, hp, _ => hp
  | (y, kd) :: r, k, acc, hp, hl => by
    unfold cellsFrom
    split
    · refine cellsFrom_apart r _ _ (List.pairwise_cons.mpr ⟨fun z hz e => ?_, hp⟩) fun x hx => ?_
      · exact Nat.lt_irrefl _ (Nat.lt_of_lt_of_eq (hl z hz) e)
      · rcases List.mem_cons.mp hx with rfl | hx
        · exact Nat.lt_succ_self _
        · exact Nat.lt_succ_of_lt (hl x hx)
    · exact cellsFrom_apart r _ _ hp hl

theorem wp_compEnv {M : Model} {A : Around} {E : Value → Shared → Prop} {s : Shared} {scope : Scope} {env : Env} {g : Addr} {cl : List (Str × Addr)} {qual : Str} {Q : Env → Shared → Prop}
    (hQ : Q (newEnv scope s.heap.objs.size g (cellsFrom (s.heap.objs.size + 1) scope.names cl) qual none .none (some env) builtinsNs) { s with heap := pushCells (s.heap.push { cls := .type "dict", data := .dict #[] }) scope.names }) :
    wpAny M A (newFunctionEnv scope g cl [] qual none .none (some env)) Q E s := by
  simp only [newFunctionEnv, Option.isSome_some, if_true]
  refine wpAny_bind (wpAny_alloc ?_)
  refine wpAny_bind (wpAny_layCells _ (fun name kind cells => by cases hkc : kind == NameKind.cell <;> simp [hkc]) _ _ _ _ ?_)
  rw [show ({ s with heap := s.heap.push { cls := .type "dict", data := .dict #[] } } : Shared).heap.objs.size = s.heap.objs.size + 1 from Heap.size_push ..]
  refine wpAny_bind ?_
  rw [List.forIn_nil]
  exact wpAny_pure (wpAny_pure hQ)


theorem lookup_mem {α : Type} {x : Str} {k : α} : ∀ {l : List (Str × α)}, (x, k) ∈ l → (l.map (·.1)).Nodup → l.lookup x = some k
  | (y, j) :: r, h, hn => by
    simp only [List.map_cons, List.nodup_cons] at hn
    rcases List.mem_cons.mp h with e | h
    · cases e; simp
    · have hne : x ≠ y := fun e => hn.1 (e ▸ List.mem_map_of_mem (f := (·.1)) h)
      rw [List.lookup_cons, beq_eq_false_iff_ne.mpr hne]
      exact lookup_mem h hn.2
theorem relabel_lookup {env : Env} {x : Str} : ∀ {names : List (Str × NameKind)}, (names.map fun (n, k) => if (k == NameKind.free && env.scope.kind == .function && env.kindOf n == some .cell) then (n, NameKind.cell) else (n, k)).lookup x =
    (names.lookup x).map fun k => if (k == NameKind.free && env.scope.kind == .function && env.kindOf x == some .cell) then NameKind.cell else k
  | [] => rfl
  | (y, k) :: r => by
    have ih := @relabel_lookup env x r
    rw [List.map_cons]
    cases hxy : x == y with
    | true =>
      have e : x = y := by simpa using hxy
      subst e
      dsimp only
      split <;> simp_all
    | false =>
      dsimp only
      split
      · simp only [List.lookup_cons, hxy]; exact ih
      · simp only [List.lookup_cons, hxy]; exact ih
theorem cellsFrom_lookup {y : Str} : ∀ {names : List (Str × NameKind)} {k : Nat} {acc : List (Str × Addr)}, (y, NameKind.cell) ∉ names → (cellsFrom k names acc).lookup y = acc.lookup y
  | [], _, _, _ => rfl
  | (z, kd) :: r, k, acc, h => by
    unfold cellsFrom
    have hr : (y, NameKind.cell) ∉ r := fun hm => h (.tail _ hm)
    split
    · rename_i hk
      rw [cellsFrom_lookup hr]
      have hne : y ≠ z := fun e => h (by subst e; have : kd = NameKind.cell := by simpa using hk
                                         subst this; exact .head _)
      rw [List.lookup_cons, beq_eq_false_iff_ne.mpr hne]
    · exact cellsFrom_lookup hr
theorem cellsFrom_isSome {y : Str} : ∀ {names : List (Str × NameKind)} {k : Nat} {acc : List (Str × Addr)}, ((y, NameKind.cell) ∈ names ∨ (acc.lookup y).isSome = true) → ((cellsFrom k names acc).lookup y).isSome = true
  | [], _, _, h => by rcases h with h | h <;> first | exact h | cases h
  | (z, kd) :: r, k, acc, h => by
    unfold cellsFrom
    split
    · refine cellsFrom_isSome ?_
      rcases h with h | h
      · rcases List.mem_cons.mp h with e | h
        · cases e; right; simp
        · exact .inl h
      · right
        rw [List.lookup_cons]
        split <;> simp_all
    · rename_i hk
      refine cellsFrom_isSome ?_
      rcases h with h | h
      · rcases List.mem_cons.mp h with e | h
        · cases e; exact absurd rfl hk
        · exact .inl h
      · exact .inr h
theorem capt_lookup {env : Env} {y : Str} {c : Addr} (hc : env.cells.lookup y = some c) : ∀ {names : List (Str × NameKind)} {cs : List (Str × Addr)}, ((y, NameKind.free) ∈ names ∨ cs.lookup y = some c) → (capt env names cs).lookup y = some c
  | [], _, h => by rcases h with h | h <;> first | exact h | cases h
  | (z, kd) :: r, cs, h => by
    unfold capt
    refine capt_lookup hc ?_
    by_cases hz : y = z
    · subst hz
      by_cases hk : (kd == NameKind.free) = true
      · rw [if_pos hk]; right; rw [List.lookup_cons]; simp [hc]
      · rw [if_neg hk]
        rcases h with h | h
        · rcases List.mem_cons.mp h with e | h
          · cases e; exact absurd rfl hk
          · exact .inl h
        · exact .inr h
    · rcases h with h | h
      · rcases List.mem_cons.mp h with e | h
        · cases e; exact absurd rfl hz
        · exact .inl h
      · right
        split
        · rw [List.lookup_cons, beq_eq_false_iff_ne.mpr hz]; exact h
        · exact h

/-- data that lies nowhere -/
noncomputable def V.sc : V → Bool
  | .raw _ => true
  | .int _ => true
  | .str _ => true
  | _ => false
theorem VRs.sc {w : World} {b c : Heap} : ∀ {ds : List V} {vs : List Value}, VRs w b ds vs → (∀ d ∈ ds, d.sc = true) → VRs w c ds vs
  | [], [], h, _ => h
  | d :: ds, v :: vs, h, hs => by
    simp only [VRs] at h ⊢
    refine ⟨?_, VRs.sc h.2 fun e he => hs e (.tail _ he)⟩
    have := hs d (.head _)
    cases d with
    | raw _ => exact h.1
    | int _ => exact h.1
    | str _ => exact h.1
    | _ => simp [V.sc] at this
  | [], _ :: _, h, _ => by simp [VRs] at h
  | _ :: _, [], h, _ => by simp [VRs] at h

/-- the frozen part, with what is in hand -/
noncomputable def allH (b h : Heap) (F : Own) : Heap := only h fun a => (b.get? a).isSome || (F.map (·.1)).contains a
theorem allH_some {b h : Heap} {F : Own} {a : Addr} {o : Obj} : (allH b h F).get? a = some o ↔ ((b.get? a).isSome = true ∨ a ∈ F.map (·.1)) ∧ h.get? a = some o := by
  rw [allH, only_some]; simp
theorem le_allH {b h : Heap} {F : Own} (s : Le b h) : Le b (allH b h F) := fun _ _ e => allH_some.mpr ⟨.inl (by rw [e]; rfl), s _ _ e⟩
theorem allH_le {b h : Heap} {F : Own} : Le (allH b h F) h := fun _ _ e => (allH_some.mp e).2
theorem allH_none {b h : Heap} {F : Own} {a : Addr} (h1 : b.get? a = none) (h2 : a ∉ F.map (·.1)) : (allH b h F).get? a = none := by
  cases e : (allH b h F).get? a with
  | none => rfl
  | some o =>
    rcases (allH_some.mp e).1 with h | h
    · rw [h1] at h; cases h
    · exact absurd h h2
theorem get_ge_none {h : Heap} {a : Nat} (x : h.objs.size ≤ a) : h.get? a = none := by
  cases e : h.get? a with
  | none => rfl
  | some o => exact absurd (Heap.lt_size e) (Nat.not_lt.mpr x)

/-- d, frozen -/
noncomputable def Fzd (w : World) (H : Heap) (F : Own) (d₀ d : V) : Prop := ∀ b h v, Bas w H b h F → VR w b d₀ v → VR w (allH b h F) d v
theorem Fzd.same {w : World} {H : Heap} {F : Own} {d : V} : Fzd w H F d d := fun b h v B r => r.mono (le_allH B.sub)
theorem Fzd.lst {w : World} {H : Heap} {F : Own} {d : V} {ds : List V} (h : AsL F d ds) : Fzd w H F d (.lst ds) := fun b g v B r => by
  rcases h with rfl | ⟨a, rfl, hm⟩
  · exact r.mono (le_allH B.sub)
  · obtain ⟨vs, ⟨o, n, ho, q⟩, hs⟩ := B.ow _ hm
    simp only [VR] at r ⊢
    exact ⟨a, vs, r, ⟨o, n, allH_some.mpr ⟨.inr (List.mem_map_of_mem hm), ho⟩, q⟩, hs.mono (le_allH B.sub)⟩
theorem Fzd.dct {w : World} {H : Heap} {F : Own} {d : V} {kvs : List (Str × V)} (h : AsD F d kvs) : Fzd w H F d (.dct kvs) := fun b g v B r => by
  rcases h with rfl | ⟨a, rfl, hm⟩
  · exact r.mono (le_allH B.sub)
  · obtain ⟨kv, hn, ⟨o, es, ep, ho, q⟩, hs⟩ := B.ow _ hm
    simp only [VR] at r ⊢
    exact ⟨a, kv, r, hn, ⟨o, es, ep, allH_some.mpr ⟨.inr (List.mem_map_of_mem hm), ho⟩, q⟩, hs.mono (le_allH B.sub)⟩

structure CompOk (scope : Scope) (env : Env) (x : Str) : Prop where
  kind : scope.kind = .function
  free : ∀ y ∈ scope.names, y.2 = .free → (env.cells.lookup y.1).isSome = true
  nd : (scope.names.map (·.1)).Nodup
  tgt : (x, .local) ∈ scope.names ∨ (x, .cell) ∈ scope.names

noncomputable abbrev cenvOf (scope : Scope) (env : Env) (C : Addr) : Env := compE scope (capt env scope.names []) C env

section
variable {w : World} {H : Heap} {n : Nat} {pk : List Addr} {env : Env} {ρ ρc : Names} {o₀ o₁ o₂ o₃ own own₁ F : Own} {N : Names → Own → Prop} {R : V → Own → Prop} {sts : List Stmt} {st : Stmt}

theorem comp_core {A : Around} {elt iter : Expr} {x : Str} {px : Pos} {ifs : List Expr} {scope : Scope} {pos : Pos} {I : Addr} {fp wr : List Addr} {ds : List V} {P : Nat → Value → Prop} {St : Nat → Heap → Prop} {b₀ b₂ : Heap} {s₀ s₂ : Shared} {RR : Value → Addr → Result → Shared → Prop} {p : V → Bool} {f : V → V}
    (rm : Rm n A) (ok : CompOk scope env x) (L₀ : Loc w H env b₀ s₀.heap ρ own) (L₂ : Loc w H env b₂ s₂.heap ρ own₁) (hk : own₁.map (·.1) = own.map (·.1)) (st₂ : Step own b₀ s₀ b₂ s₂) (hw0 : ∀ a ∈ wr, s₀.heap.get? a = none) (K : Wk w A env own₁ F b₂ s₂ ds I fp wr P St) (hF : F.Sublist own₁)
    (hsz : ds.length ≤ 10000) (cap : ∀ y d, ρc y = some d → (y, .free) ∈ scope.names ∧ env.kindOf y = some .cell ∧ ∃ d₀, ρ y = some d₀ ∧ Fzd w H F d₀ d) (res : F = [] ∨ ∀ d ∈ (ds.filter p).map f, d.sc = true)
    (tests : ∀ C, EnvOk (cenvOf scope env C) → ∀ d ∈ ds, Tst w H n (cenvOf scope env C) (upd ρc x d) ifs (p d)) (helt : ∀ C, EnvOk (cenvOf scope env C) → ∀ d ∈ ds, p d = true → Ev w H n (cenvOf scope env C) (upd ρc x d) [] elt (f d) [])
    (hR : ∀ C D b' s' m, Step own b₀ s₀ b' s' → Loc w H env b' s'.heap ρ own₁ → VR w b' (.lst ((ds.filter p).map f)) (.ref D) → s'.heap.Ns C m → b'.get? C = none → s₀.heap.get? C = none → (∀ h', Heap.SameBut C s'.heap h' → Step own b₀ s₀ b' { s' with heap := h' } ∧ Loc w H env b' h' ρ own₁) → C ∉ own₁.map (·.1) → ¬ Priv env C → RR (.ref D) C (.ok .next) s') :
    wpAny (Md w) A (newList []) (fun acc s₃ => wpAny (Md w) A (newFunctionEnv scope env.globals (capt env scope.names []) [] env.qual none .none (some env)) (fun cenv s₄ =>
      codeAny (Md w) A (.compStart (.ListComp elt [⟨.Name x px, iter, ifs, 0⟩] scope pos) 0 (.ref I) acc { cenv with scope := relabel scope env }) (RR acc cenv.locals) s₄) NoE s₃) NoE s₂ := by
  refine wpAny_newObj_type (wp_compEnv ?_)
  dsimp only [newEnv]
  generalize hH2 : s₂.heap.push { cls := .type "list", dict := none, data := .seq ([] : List Value).toArray } = H2
  have hC : H2.objs.size = s₂.heap.objs.size + 1 := by rw [← hH2, Heap.size_push]
  generalize hH3 : pushCells (H2.push { cls := .type "dict", data := .dict #[] }) scope.names = H3
  have hCC : (H2.push { cls := .type "dict", data := .dict #[] }).objs.size = H2.objs.size + 1 := Heap.size_push ..
  have old2 : ∀ a o, H2.get? a = some o → H3.get? a = some o := fun a o e => hH3 ▸ pushCells_keeps _ _ a o (Heap.get?_push_of_some _ e)
  have old : ∀ a o, s₂.heap.get? a = some o → H3.get? a = some o := fun a o e => old2 a o (hH2 ▸ Heap.get?_push_of_some _ e)
  have hD : H3.PlainList s₂.heap.objs.size #[] := ⟨_, old2 _ _ (hH2 ▸ Heap.get?_push_size _ rfl)⟩
  have hns : H3.Ns H2.objs.size fun _ => none := by rw [← hH3]; exact (Heap.Ns.new H2 (.type "dict")).keeps (pushCells_keeps _ _)
  have fr : ∀ a : Nat, s₂.heap.objs.size ≤ a → s₂.heap.get? a = none := fun a ha => get_ge_none ha
  have fr0 : ∀ a : Nat, s₂.heap.objs.size ≤ a → s₀.heap.get? a = none := fun a ha => by
    cases e : s₀.heap.get? a with
    | none => rfl
    | some q => obtain ⟨q', hq⟩ := st₂.live a q e; rw [fr a ha] at hq; cases hq
  have frb : ∀ a : Nat, s₂.heap.objs.size ≤ a → (allH b₂ s₂.heap F).get? a = none := fun a ha => by
    cases e : (allH b₂ s₂.heap F).get? a with
    | none => rfl
    | some q => have := allH_le _ _ e; rw [fr a ha] at this; cases this
  have cells : ∀ y c, (cellsFrom (H2.objs.size + 1) scope.names (capt env scope.names [])).lookup y = some c → ((y, NameKind.free) ∈ scope.names ∧ env.cells.lookup y = some c) ∨ (H2.objs.size + 1 ≤ c ∧ H3.IsCell c none) := fun y c hc => by
    rw [← hCC] at hc
    rcases pushCells_mem _ _ _ _ (mem_of_lookup hc) with h | h
    · rcases capt_mem h ok.free with h | h
      · cases h
      · exact .inl h
    · rw [hH3, hCC] at h; exact .inr h
  obtain ⟨m, cm, Fr, hv⟩ := L₂.frm
  have alive : ∀ y c, env.cells.lookup y = some c → c < s₂.heap.objs.size := fun y c hc => let ⟨q, hq⟩ := Fr.live (.inr ⟨y, hc⟩); Heap.lt_size hq
  have privc : ∀ a, Priv (cenvOf scope env H2.objs.size) a → Priv env a ∨ H2.objs.size ≤ a := fun a pa => by
    rcases pa with rfl | ⟨y, hy⟩
    · exact .inr (Nat.le_refl _)
    · rcases cells y a hy with h | h
      · exact .inl (.inr ⟨y, h.2⟩)
      · exact .inr (Nat.le_of_succ_le h.1)
  have hFb : ∀ a, a ∈ F.map (·.1) → a ∈ own₁.map (·.1) := fun a ha => (hF.map _).subset ha
  have okc : EnvOk (cenvOf scope env H2.objs.size) := ⟨ok.kind, L₂.ok.gl, L₂.ok.bl⟩
  have BF : Bas w H b₂ s₂.heap F := (L₂.sublist hF).bas
  have pb : ∀ a, Priv env a → (allH b₂ s₂.heap F).get? a = none := fun a pa => allH_none (L₂.priv a pa) fun hm => by
    obtain ⟨q, hq, rfl⟩ := List.mem_map.mp (hFb _ hm)
    exact L₂.ownp q hq pa
  have Lc : Loc w H (cenvOf scope env H2.objs.size) (allH b₂ s₂.heap F) H3 ρc [] := by
    refine ⟨okc, L₂.base.trans (le_allH L₂.sub), allH_le.trans old, ⟨fun _ => none, fun y => match (cellsFrom (H2.objs.size + 1) scope.names (capt env scope.names [])).lookup y with | some c => if H2.objs.size ≤ c then none else cm y | none => none, ⟨hns, fun y c hc => ?_, ?_, fun y c hc => ?_⟩, fun y d hy => ?_⟩, fun a pa => ?_, (fun _ h => nomatch h), (fun _ h => nomatch h), (fun _ h => nomatch h), List.nodup_nil⟩
    · have hc' : (cellsFrom (H2.objs.size + 1) scope.names (capt env scope.names [])).lookup y = some c := hc
      rw [hc']
      dsimp only
      rcases cells y c hc' with h | h
      · have hlt := alive y c h.2
        rw [if_neg (by rw [hC]; exact Nat.not_le.mpr (Nat.lt_succ_of_lt hlt))]
        exact (Fr.cell y c h.2).keeps old
      · rw [if_pos (Nat.le_of_succ_le h.1)]
        exact h.2
    · refine cellsFrom_apart _ _ _ (capt_apart Fr.apart ok.nd ok.free List.Pairwise.nil fun _ h => nomatch h) fun z hz => ?_
      rcases capt_mem (x := z.1) (c := z.2) hz ok.free with h | h
      · cases h
      · rw [hC]; exact Nat.lt_succ_of_lt (Nat.lt_succ_of_lt (alive _ _ h.2))
    · show H2.objs.size ≠ c
      rcases cells y c hc with h | h
      · rw [hC]; exact Nat.ne_of_gt (Nat.lt_succ_of_lt (alive _ _ h.2))
      · exact Nat.ne_of_lt h.1
    · obtain ⟨hyf, hyc, d₀, hd₀, hfz⟩ := cap y d hy
      obtain ⟨v, h1, h2⟩ := hv y d₀ hd₀
      have hkf : scope.names.lookup y = some .free := lookup_mem hyf ok.nd
      have hkc : (cenvOf scope env H2.objs.size).kindOf y = some .cell := by
        show (relabel scope env).names.lookup y = _
        unfold relabel
        rw [relabel_lookup, hkf]
        simp [L₂.ok.fn, hyc]
      have hyn : (y, NameKind.cell) ∉ scope.names := fun hm => by have := lookup_mem hm ok.nd; rw [hkf] at this; cases this
      obtain ⟨c, hc⟩ := Option.isSome_iff_exists.mp (ok.free _ hyf rfl)
      have hcl : (cellsFrom (H2.objs.size + 1) scope.names (capt env scope.names [])).lookup y = some c := by rw [cellsFrom_lookup hyn]; exact capt_lookup hc (.inl hyf)
      refine ⟨v, ?_, hfz _ _ _ BF h2⟩
      have hnl : ¬ env.kindOf y = some .local := by rw [hyc]; decide
      unfold nameVal at h1 ⊢
      rw [if_neg hnl, if_pos hyc, hc] at h1
      rw [if_neg (by rw [hkc]; decide), if_pos hkc]
      have hcl' : (cenvOf scope env H2.objs.size).cells.lookup y = some c := hcl
      rw [hcl']
      simp only [hcl, Option.isSome_some, if_true]
      have hlt := alive y c hc
      rw [if_neg (by rw [hC]; exact Nat.not_le.mpr (Nat.lt_succ_of_lt hlt))]
      simpa using h1
    · rcases privc a pa with h | h
      · exact pb a h
      · exact frb a (Nat.le_trans (by rw [hC]; exact Nat.le_succ _) h)
  have hDp : ¬ Priv (cenvOf scope env H2.objs.size) s₂.heap.objs.size := fun pa => by
    rcases privc _ pa with h | h
    · obtain ⟨q, hq⟩ := Fr.live h; exact Nat.lt_irrefl _ (Heap.lt_size hq)
    · rw [hC] at h; exact Nat.not_succ_le_self _ h
  have wlt : ∀ a ∈ wr, a < s₂.heap.objs.size := fun a ha => let ⟨_, _, _, q, hq⟩ := K.new a ha; Heap.lt_size hq
  have hDw : s₂.heap.objs.size ∉ wr := fun h => Nat.lt_irrefl _ (wlt _ h)
  have hst₃ : St 0 H3 := K.walks.frame _ _ _ K.st fun a _ o e => old a o e
  have loop : codeAny (Md w) A (.compLoop (.ListComp elt [⟨.Name x px, iter, ifs, 0⟩] scope pos) 0 (.ref I) (.ref s₂.heap.objs.size) (cenvOf scope env H2.objs.size)) (RR (.ref s₂.heap.objs.size) H2.objs.size) { s₂ with heap := H3 } := by
    refine comp_loop (o₀ := own) (b₀ := allH b₂ s₂.heap F) (s₀ := s₀) (s₂ := s₂) (ds := ds) (p := p) (f := f) (ρ := ρc) (b := allH b₂ s₂.heap F) rm K.walks (fun i v h => let ⟨d, h1, h2⟩ := K.item i v h; ⟨d, h1, h2.mono (le_allH L₂.sub)⟩) K.alive ?_ ?_ hst₃ hD (frb _ (Nat.le_refl _)) hDw hDp (fr _ (Nat.le_refl _)) Lc ?_ ?_ ?_ hsz (tests _ okc) (helt _ okc) ?_
    · rcases ok.tgt with h | h
      · exact .inl (lookup_relabel_local (lookup_mem h ok.nd))
      · refine .inr ⟨?_, ?_⟩
        · show (relabel scope env).names.lookup x = _
          unfold relabel
          rw [relabel_lookup, lookup_mem h ok.nd]; simp
        · exact cellsFrom_isSome (.inl h)
    · intro a ha
      rcases ha with ⟨_, rfl⟩ | ⟨hkx, hcx⟩
      · exact fr _ (by show _ ≤ H2.objs.size; rw [hC]; exact Nat.le_succ _)
      · rcases cells x a hcx with h | h
        · exfalso
          rcases ok.tgt with h' | h'
          · have e1 := lookup_mem h' ok.nd; have e2 := lookup_mem h.1 ok.nd; rw [e1] at e2; cases e2
          · have e1 := lookup_mem h' ok.nd; have e2 := lookup_mem h.1 ok.nd; rw [e1] at e2; cases e2
        · exact fr _ (Nat.le_trans (by rw [hC]; (first | assumption | exact Nat.le_of_ble_eq_true rfl | exact Nat.add_le_add_left (Nat.le_of_ble_eq_true rfl) _ | exact Nat.le_trans (by assumption) (Nat.le_of_ble_eq_true rfl) | lia | omega)) h.1)
    · refine ⟨⟨?_, fun a o ha e => old a o (st₂.keep a o ha e), fun a o e => let ⟨q, hq⟩ := st₂.live a o e; ⟨q, old a q hq⟩, Le.refl _, fun _ _ e => .inl e⟩, fun a o _ e => old a o e, fun a ha => ?_⟩
      · obtain ⟨h', t', rfl⟩ := st₂.same; exact ⟨H3, t', rfl⟩
      · rcases ha with h | h
        · exact hw0 a h
        · cases e : s₀.heap.get? a with
          | none => rfl
          | some q => obtain ⟨q', hq⟩ := st₂.live a q e; rw [h] at hq; cases hq
    · intro a ha
      obtain ⟨h1, h2, h3, _⟩ := K.new a ha
      refine ⟨allH_none h1 fun hm => h2 (hFb _ hm), fun pa => ?_⟩
      rcases privc _ pa with h | h
      · exact h3 h
      · have := wlt a ha; rw [hC] at h; exact Nat.lt_irrefl _ (Nat.lt_of_lt_of_le (Nat.lt_succ_of_lt this) h)
    · intro a ha
      rcases K.foot a ha with h | ⟨q, hq⟩ | h
      · exact .inl h
      · exact .inr ⟨q, le_allH L₂.sub _ _ hq⟩
      · obtain ⟨p, hp, rfl⟩ := List.mem_map.mp h
        obtain ⟨q, hq⟩ := (BF.ow p hp).live
        exact .inr ⟨q, allH_some.mpr ⟨.inr h, hq⟩⟩
    · intro b' s' ρ' vs Kp' L' hD' hV hDb'
      have hCp : Priv (cenvOf scope env H2.objs.size) H2.objs.size := .inl rfl
      have hCn := L'.priv _ hCp
      have keep : ∀ a o, a ∉ wr → s₂.heap.get? a = some o → s'.heap.get? a = some o := Kp'.kp
      have hCD : s₂.heap.objs.size ≠ H2.objs.size := by rw [hC]; exact Nat.ne_of_lt (Nat.lt_succ_self _)
      obtain ⟨B, hB⟩ : ∃ B, B = only s'.heap fun a => ((b'.get? a).isSome && !(F.map (·.1)).contains a) || a == s₂.heap.objs.size := ⟨_, rfl⟩
      have B_some : ∀ a o, B.get? a = some o ↔ (((∃ q, b'.get? a = some q) ∧ a ∉ F.map (·.1)) ∨ a = s₂.heap.objs.size) ∧ s'.heap.get? a = some o := fun a o => by
        rw [hB, only_some]
        simp [Option.isSome_iff_exists]
      have le2 : Le b₂ B := fun a o e => (B_some a o).mpr ⟨.inl ⟨⟨o, Kp'.st.grow _ _ (le_allH L₂.sub _ _ e)⟩, fun hm => by
        obtain ⟨q, hq, rfl⟩ := List.mem_map.mp hm
        rw [BF.ownb q hq] at e; cases e⟩, L'.sub _ _ (Kp'.st.grow _ _ (le_allH L₂.sub _ _ e))⟩
      have Bsub : Le B s'.heap := fun a o e => ((B_some a o).mp e).2
      have Bfrom : ∀ a o, B.get? a = some o → b₂.get? a = some o ∨ s₀.heap.get? a = none := fun a o e => by
        obtain ⟨⟨⟨q, hq⟩, hf⟩ | rfl, h2⟩ := (B_some a o).mp e
        · rcases Kp'.st.fresh a q hq with h | h
          · left
            obtain ⟨h3 | h3, h4⟩ := allH_some.mp h
            · obtain ⟨z, hz⟩ := Option.isSome_iff_exists.mp h3
              have e1 := L'.sub _ _ (Kp'.st.grow _ _ (le_allH L₂.sub _ _ hz))
              rw [h2] at e1; cases e1; exact hz
            · exact absurd h3 hf
          · exact .inr h
        · exact .inr (fr0 _ (Nat.le_refl _))
      have Bnone : ∀ a, b₂.get? a = none → (∃ q, s₀.heap.get? a = some q) → B.get? a = none := fun a h1 ⟨q, hq⟩ => by
        cases e : B.get? a with
        | none => rfl
        | some o => rcases Bfrom a o e with h | h
                    · rw [h1] at h; cases h
                    · rw [h] at hq; cases hq
      have stF : Step own b₀ s₀ B s' := ⟨Kp'.st.same, Kp'.st.keep, Kp'.st.live, st₂.grow.trans le2, fun a o e => by
        rcases Bfrom a o e with h | h
        · exact st₂.fresh a o h
        · exact .inr h⟩
      have nwp : ∀ a, Priv env a → a ∉ wr := fun a pa ha => (K.new a ha).2.2.1 pa
      have nwo : ∀ p ∈ own₁, p.1 ∉ wr := fun p hp ha => (K.new _ ha).2.1 (List.mem_map_of_mem hp)
      obtain ⟨m₀, cm₀, Fr₀, _⟩ := L₀.frm
      have LF : Loc w H env B s'.heap ρ own₁ := by
        refine ⟨L₂.ok, L₂.base.trans le2, Bsub, ⟨m, cm, Fr.keep fun a pa q e => keep a q (nwp a pa) e, fun y d e => let ⟨v, h1, h2⟩ := hv y d e; ⟨v, h1, h2.mono le2⟩⟩, fun a pa => Bnone a (L₂.priv a pa) (Fr₀.live pa), fun p hp => (L₂.ow p hp).keep le2 fun q e => keep _ q (nwo p hp) e, fun p hp => Bnone _ (L₂.ownb p hp) ?_, L₂.ownp, L₂.nodup⟩
        have : p.1 ∈ own.map (·.1) := hk ▸ List.mem_map_of_mem hp
        obtain ⟨q, hq, e⟩ := List.mem_map.mp this
        rw [← e]; exact (L₀.ow q hq).live
      have hCB : B.get? H2.objs.size = none := by
        cases e : B.get? H2.objs.size with
        | none => rfl
        | some o =>
          obtain ⟨⟨⟨q, hq⟩, hf⟩ | h, h2⟩ := (B_some _ o).mp e
          · rw [hCn] at hq; cases hq
          · exact absurd h.symm hCD
      have hC0 : s₀.heap.get? H2.objs.size = none := fr0 _ (by rw [hC]; exact Nat.le_succ _)
      have hC2 : s₂.heap.get? H2.objs.size = none := fr _ (by rw [hC]; exact Nat.le_succ _)
      have hCo : H2.objs.size ∉ own₁.map (·.1) := fun hm => by
        obtain ⟨q, hq, e⟩ := List.mem_map.mp hm
        obtain ⟨z, hz⟩ := (L₂.ow q hq).live
        rw [e, hC2] at hz; cases hz
      have hCe : ¬ Priv env H2.objs.size := fun pa => by obtain ⟨z, hz⟩ := Fr.live pa; rw [hC2] at hz; cases hz
      have rs : VR w B (.lst ((ds.filter p).map f)) (.ref s₂.heap.objs.size) := by
        obtain ⟨k, hk'⟩ := hD'
        simp only [VR]
        refine ⟨_, vs, rfl, ⟨_, _, (B_some _ _).mpr ⟨.inr rfl, hk'⟩, rfl, rfl, rfl⟩, ?_⟩
        rcases res with rfl | hs
        · exact hV.mono fun a o e => (B_some a o).mpr ⟨.inl ⟨⟨o, e⟩, by simp⟩, L'.sub _ _ e⟩
        · exact hV.sc hs
      obtain ⟨m', cm', Fr', _⟩ := L'.frm
      refine hR _ _ B s' m' stF LF rs Fr'.ns hCB hC0 (fun h' hs' => ?_) hCo hCe
      have ext : ∀ a o, a ≠ H2.objs.size → s'.heap.get? a = some o → h'.get? a = some o := fun a o ha e => (hs'.2 a ha).trans e
      refine ⟨⟨?_, fun a o ha e => ext a o (fun e' => by rw [e', hC0] at e; cases e) (stF.keep a o ha e), fun a o e => ?_, stF.grow, stF.fresh⟩, LF.other (wr := [H2.objs.size]) (fun a o ha e => ext a o (by simpa using ha) e) fun a ha => by rw [List.mem_singleton.mp ha]; exact ⟨hCB, hCo, hCe⟩⟩
      · obtain ⟨g, t, rfl⟩ := stF.same; exact ⟨h', t, rfl⟩
      · obtain ⟨q, hq⟩ := stF.live a o e
        exact ⟨q, ext a q (fun e' => by rw [e', hC0] at e; cases e) hq⟩
  exact codeAny_compStart_list loop (K.walks.self 0 _ _ _ hst₃ loop)
end
end Mine
end
section
open PySem PySem.W PyProof.Rows PySem.MeetsSeq PySem.SeqAt
namespace Mine

section
variable {w : World} {H Z : Heap} {n : Nat} {pk : List Addr} {env : Env} {ρ ρc : Names} {o₀ o₁ o₂ o₃ own own₁ F : Own} {N : Names → Own → Prop} {R : V → Own → Prop} {sts : List Stmt} {st : Stmt}

theorem Sta.other {b₀ b : Heap} {s₀ s : Shared} {h' : Heap} {c : Addr} {k : Nat} (S : Sta w H env pk o₀ b₀ s₀ Z b s ρ own) (hs : Heap.SameBut c s.heap h') (hb : b.get? c = none) (h0 : s₀.heap.get? c = none) (ho : c ∉ own.map (·.1)) (hp : ¬ Priv env c) (hz : ¬ ∃ q, Z.get? c = some q) : Sta w H env pk o₀ b₀ s₀ Z b { s with heap := h', toks := k } ρ own := by
  have ext : ∀ a o, a ≠ c → s.heap.get? a = some o → h'.get? a = some o := fun a o ha e => (hs.2 a ha).trans e
  refine ⟨S.keys, ⟨?_, fun a o ha e => ext a o (fun e' => by rw [e', h0] at e; cases e) (S.st.keep a o ha e), fun a o e => ?_, S.st.grow, S.st.fresh⟩, S.loc.other (wr := [c]) (fun a o ha e => ext a o (by simpa using ha) e) (fun a ha => by rw [List.mem_singleton.mp ha]; exact ⟨hb, ho, hp⟩), S.priv0, S.own0, fun a q e => ext a q (fun e' => hz ⟨q, e' ▸ e⟩) (S.pin a q e), S.pinO, S.lv⟩
  · obtain ⟨g, t, rfl⟩ := S.st.same; exact ⟨h', k, rfl⟩
  · obtain ⟨q, hq⟩ := S.st.live a o e
    exact ⟨q, ext a q (fun e' => by rw [e', h0] at e; cases e) hq⟩

/-- a list comprehension over one source -/
structure CompJ (w : World) (H : Heap) (n : Nat) (env : Env) (ρ ρc : Names) (F : Own) (scope : Scope) (x : Str) (ifs : List Expr) (elt : Expr) (ds : List V) (p : V → Bool) (f : V → V) : Prop where
  ok : CompOk scope env x
  sz : ds.length ≤ 10000
  cap : ∀ y d, ρc y = some d → (y, .free) ∈ scope.names ∧ env.kindOf y = some .cell ∧ ∃ d₀, ρ y = some d₀ ∧ Fzd w H F d₀ d
  res : F = [] ∨ ∀ d ∈ (ds.filter p).map f, d.sc = true
  tests : ∀ C, EnvOk (cenvOf scope env C) → ∀ d ∈ ds, Tst w H n (cenvOf scope env C) (upd ρc x d) ifs (p d)
  elts : ∀ C, EnvOk (cenvOf scope env C) → ∀ d ∈ ds, p d = true → Ev w H n (cenvOf scope env C) (upd ρc x d) [] elt (f d) []

theorem names_ok {scope : Scope} (nd : (scope.names.map (·.1)).Nodup) : ∀ y ∈ scope.names, y.2 = .local → scope.names.lookup y.1 = some .local := fun y hy e => lookup_mem (by rw [← e]; exact hy) nd

theorem Ev.comp {elt iter : Expr} {x : Str} {px : Pos} {ifs : List Expr} {scope : Scope} {pos : Pos} {ds : List V} {p : V → Bool} {f : V → V} (src : Src w H n env ρ own F iter ds own₁) (hF : F.Sublist own₁) (J : CompJ w H n env ρ ρc F scope x ifs elt ds p f)
    (hs : ∀ x, foldedSetIterable iter env x = pure x := by intro _; rfl) : Ev w H n env ρ own (.ListComp elt [⟨.Name x px, iter, ifs, 0⟩] scope pos) (.lst ((ds.filter p).map f)) own₁ :=
  .mk src.1 fun A b s rm L => by
    rw [eval_ListComp]
    refine wpAny_comprehension_free (use := none) rfl hs (closureFor_eq J.ok.free) J.ok.kind (names_ok J.ok.nd) (wpAny_mono (src.2 A b s rm L) (fun xv s₁ h₁ => wpAny_mono h₁ (fun it s₂ h₂ => ?_) fun _ _ e => e) fun _ _ e => e)
    obtain ⟨b₂, st₂, L₂, I, fp, wr, P, St, rfl, hw0, K⟩ := h₂
    refine comp_core (RR := fun acc C => compPost (Md w) A NoE none (Pt w H env ρ own b s own₁ (.lst ((ds.filter p).map f))) acc C) rm J.ok L L₂ src.1 st₂ hw0 K hF J.sz J.cap J.res J.tests J.elts ?_
    intro C D b' s' m stF LF rs hn hCb hC0 hch hCo hCp
    refine ⟨m, hn, fun h' hs' => ?_⟩
    obtain ⟨st', L'⟩ := hch h' hs'
    exact ⟨b', st', L', rs⟩

theorem S1.assignComp {elt iter : Expr} {x y : Str} {px py : Pos} {ifs : List Expr} {scope : Scope} {pos spos : Pos} {ds : List V} {p : V → Bool} {f : V → V} (src : Src w H n env ρ own F iter ds own₁) (hF : F.Sublist own₁) (J : CompJ w H n env ρ ρc F scope x ifs elt ds p f) (hy : Storable env y)
    (h : N (upd ρ y (.lst ((ds.filter p).map f))) own₁)
    (hsw : swapsWith (.ListComp elt [⟨.Name x px, iter, ifs, 0⟩] scope pos) (some (.Name y py)) spos.line env = pure true := by rfl)
    (hs : ∀ x, foldedSetIterable iter env x = pure x := by intro _; rfl) : S1 w H n pk env (.Assign [.Name y py] (.ListComp elt [⟨.Name x px, iter, ifs, 0⟩] scope pos) spos) ρ own N R := fun A o₀ b₀ s₀ Z b s rm S => by
  rw [exec_Assign_Name_used _ _ _ _ hsw]
  refine wpAny_bind (wpAny_standAt (wpAny_bind ?_))
  show wpAny _ A (do let _ ← comprehension (.ListComp elt [⟨.Name x px, iter, ifs, 0⟩] scope pos) scope env _ (newList []) false (eval iter env) (some (PySem.assign (.Name y py) env))) _ _ s
  refine wpAny_bind (wpAny_mono (wpAny_comprehension_free (use := some (PySem.assign (.Name y py) env)) (Q := fun _ s' => Pf w H env pk o₀ b₀ s₀ Z N R .next s') rfl hs (closureFor_eq J.ok.free) J.ok.kind (names_ok J.ok.nd) (wpAny_mono (src.2 A b s rm S.loc) (fun xv s₁ h₁ => wpAny_mono h₁ (fun it s₂ h₂ => ?_) fun _ _ e => e) fun _ _ e => e)) (fun _ _ h => ?_) fun _ _ e => e)
  · obtain ⟨b₂, st₂, L₂, I, fp, wr, P, St, rfl, hw0, K⟩ := h₂
    refine comp_core (RR := fun acc C => compPost (Md w) A NoE (some (PySem.assign (.Name y py) env)) (fun _ s' => Pf w H env pk o₀ b₀ s₀ Z N R .next s') acc C) rm J.ok S.loc L₂ src.1 st₂ hw0 K hF J.sz J.cap J.res J.tests J.elts ?_
    intro C D b' s' m stF LF rs hn hCb hC0 hch hCo hCp
    have S' := S.step stF LF src.1
    refine wpAny_assign_Name (wp_store LF hy rs fun h₁ k a pl hs₁ hq L₁ => ?_)
    have hCa : C ≠ a := fun e => hCp (e ▸ pl.priv)
    refine ⟨m, hn.sameBut hs₁ hCa, fun h' hs' => ?_⟩
    have S₁ := S'.local (k := k) hs₁ pl.priv hq L₁.frm
    have h00 : s₀.heap.get? C = none := by
      cases e : s₀.heap.get? C with
      | none => rfl
      | some q => obtain ⟨q', hq'⟩ := S.st.live C q e; rw [hC0] at hq'; cases hq'
    have hZ : ¬ ∃ q, Z.get? C = some q := fun ⟨q, hq⟩ => by have := S.pin C q hq; rw [hC0] at this; cases this
    exact ⟨b', _, own₁, h, S₁.other (k := k) hs' hCb h00 hCo hCp hZ⟩
  · first | exact wpAny_pure h | exact wpAny_bind (wpAny_pure (wpAny_pure h)) | exact wpAny_pure (wpAny_pure h)
end
end Mine
end
section
open PySem PySem.W PyProof.Rows PySem.MeetsSeq PySem.SeqAt
namespace Mine

section
variable {w : World} {H Z : Heap} {n : Nat} {pk : List Addr} {env : Env} {ρ ρc : Names} {o₀ o₁ o₂ o₃ own own₁ F : Own} {N : Names → Own → Prop} {R : V → Own → Prop} {sts : List Stmt} {st : Stmt}

theorem Sta.moved {b₀ b : Heap} {s₀ s : Shared} {h' : Heap} {wr : List Addr} {k : Nat} (S : Sta w H env pk o₀ b₀ s₀ Z b s ρ own) (hk : ∀ a o, a ∉ wr → s.heap.get? a = some o → h'.get? a = some o) (hw : ∀ a ∈ wr, b.get? a = none ∧ a ∉ own.map (·.1) ∧ ¬ Priv env a ∧ s₀.heap.get? a = none ∧ Z.get? a = none) : Sta w H env pk o₀ b₀ s₀ Z b { s with heap := h', toks := k } ρ own := by
  have n0 : ∀ a o, s₀.heap.get? a = some o → a ∉ wr := fun a o e hm => by rw [(hw a hm).2.2.2.1] at e; cases e
  refine ⟨S.keys, ⟨?_, fun a o ha e => hk a o (n0 a o e) (S.st.keep a o ha e), fun a o e => ?_, S.st.grow, S.st.fresh⟩, S.loc.other hk fun a ha => ⟨(hw a ha).1, (hw a ha).2.1, (hw a ha).2.2.1⟩, S.priv0, S.own0, fun a q e => hk a q (fun hm => by rw [(hw a hm).2.2.2.2] at e; cases e) (S.pin a q e), S.pinO, S.lv⟩
  · obtain ⟨g, t, rfl⟩ := S.st.same; exact ⟨h', k, rfl⟩
  · obtain ⟨q, hq⟩ := S.st.live a o e
    exact ⟨q, hk a q (n0 a o e) hq⟩

/-- while ..: ..; by an invariant with a measure -/
theorem S1.while {t : Expr} {body : List Stmt} {pos : Pos} (Inv : Nat → Names → Own → Prop) (k₀ : Nat) (h0 : Inv k₀ ρ own)
    (step : ∀ k ρ' own', Inv k ρ' own' → ∃ q own'', Te w H n env ρ' own' t q own'' ∧ (q = true → Sx w H n pk env body ρ' own'' (fun ρ₁ o₁ => ∃ m, m < k ∧ Inv m ρ₁ o₁) R) ∧ (q = false → N ρ' own'')) : S1 w H n pk env (.While t body [] pos) ρ own N R := fun A o₀ b₀ s₀ Z b s rm S => by
  refine wpAny_While (codeAny_whileLoop (fun k s' => ∃ b' ρ' own', Inv k ρ' own' ∧ Sta w H env pk o₀ b₀ s₀ Z b' s' ρ' own') ?_ k₀ ⟨b, ρ, own, h0, S⟩)
  rintro k s' ⟨b', ρ', own', hI, S'⟩
  obtain ⟨q, own'', hT, hB, hN⟩ := step k ρ' own' hI
  refine wpAny_mono (wp_any (hT.run rm S'.loc)) (fun v s₁ ⟨e, b₁, st₁, L₁⟩ => ?_) fun _ _ e => e
  subst e
  have S₁ := S'.step st₁ L₁ hT.1
  cases v with
  | true =>
    simp only [if_true]
    refine wpAny_mono (wp_any (hB rfl A o₀ b₀ s₀ Z b₁ s₁ rm S₁)) (fun f s₂ p => ?_) fun _ _ e => e
    cases f with
    | next => obtain ⟨b₂, ρ₂, own₂, ⟨m, hm, hI₂⟩, S₂⟩ := p; exact ⟨m, hm, b₂, ρ₂, own₂, hI₂, S₂⟩
    | ret v => exact p
    | brk => exact p.elim
    | cont => exact p.elim
  | false =>
    simp only [Bool.false_eq_true, if_false]
    exact wpAny_execs_nil ⟨b₁, ρ', own'', hN rfl, S₁⟩

/-- for x in ..: ..; by an invariant -/
theorem S1.for {x : Str} {px pos : Pos} {iter : Expr} {body : List Stmt} {ds : List V} (Inv : Nat → Names → Own → Prop) (src : Src w H n env ρ own [] iter ds own₁) (hx : Storable env x) (h0 : Inv 0 ρ own₁)
    (step : ∀ i d, ds[i]? = some d → ∀ ρ' own', Inv i ρ' own' → Sx w H n pk env body (upd ρ' x d) own' (Inv (i + 1)) R) (fin : ∀ ρ' own', Inv ds.length ρ' own' → N ρ' own')
    (hs : ∀ x, foldedSetIterable iter env x = pure x := by intro _; rfl) : S1 w H n pk env (.For (.Name x px) iter body [] pos) ρ own N R := fun A o₀ b₀ s₀ Z b s rm S => by
  refine wpAny_For (wpAny_mono (src.2 A b s rm S.loc) (fun xv s₁ h₁ => wpAny_mono h₁ (fun it s₂ h₂ => ?_) fun _ _ e => e) fun _ _ e => e) hs
  obtain ⟨b₂, st₂, L₂, I, fp, wr, P, St, rfl, hw0, K⟩ := h₂
  have S₂ := S.step st₂ L₂ src.1
  have w00 : ∀ a ∈ wr, s₀.heap.get? a = none := fun a ha => by
    cases e : s₀.heap.get? a with
    | none => rfl
    | some q => obtain ⟨q', hq⟩ := S.st.live a q e; rw [hw0 a ha] at hq; cases hq
  have wZ : ∀ a ∈ wr, Z.get? a = none := fun a ha => by
    cases e : Z.get? a with
    | none => rfl
    | some q => have := S.pin a q e; rw [hw0 a ha] at this; cases this
  refine codeAny_forLoop
    (fun k s' => ∃ i b' ρ' own', i ≤ ds.length ∧ k = ds.length + 1 - i ∧ Inv i ρ' own' ∧ Sta w H env pk o₀ b₀ s₀ Z b' s' ρ' own' ∧ Le b₂ b' ∧ St i s'.heap ∧ ∀ a ∈ wr, b'.get? a = none ∧ a ∉ own'.map (·.1)) ?_ (ds.length + 1)
    ⟨0, b₂, ρ, own₁, Nat.zero_le _, rfl, h0, S₂, Le.refl _, K.st, fun a ha => ⟨(K.new a ha).1, (K.new a ha).2.1⟩⟩
  rintro k s' ⟨i, b', ρ', own', hi, rfl, hI, S', le', hst', hw'⟩
  have hwm : ∀ a ∈ wr, b'.get? a = none ∧ a ∉ own'.map (·.1) ∧ ¬ Priv env a ∧ s₀.heap.get? a = none ∧ Z.get? a = none := fun a ha => ⟨(hw' a ha).1, (hw' a ha).2, (K.new a ha).2.2.1, w00 a ha, wZ a ha⟩
  by_cases hlt : i < ds.length
  · refine K.walks.item i _ _ _ hlt hst' fun v h₁ tk₁ hPv hst₁ hk₁ => ?_
    obtain ⟨d, hd, rv⟩ := K.item i v hPv
    have S₁ := S'.moved (k := tk₁) hk₁ hwm
    obtain ⟨Z', hZ'⟩ : ∃ Z', Z' = only h₁ fun a => (Z.get? a).isSome || wr.contains a := ⟨_, rfl⟩
    have Zs : ∀ a q, Z'.get? a = some q ↔ ((∃ q, Z.get? a = some q) ∨ a ∈ wr) ∧ h₁.get? a = some q := fun a q => by
      rw [hZ', only_some]; simp [Option.isSome_iff_exists]
    have ZZ : Le Z Z' := fun a q e => (Zs a q).mpr ⟨.inl ⟨q, e⟩, S₁.pin a q e⟩
    have S₁' : Sta w H env pk o₀ b' s₀ Z' b' { s' with heap := h₁, toks := tk₁ } ρ' own' := ⟨S₁.keys, ⟨S₁.st.same, S₁.st.keep, S₁.st.live, Le.refl _, fun _ _ e => .inl e⟩, S₁.loc, S₁.priv0, S₁.own0, fun a q e => ((Zs a q).mp e).2, fun a q e => by
      rcases ((Zs a q).mp e).1 with ⟨q', h⟩ | h
      · exact S₁.pinO a q' h
      · exact ⟨(hw' a h).2, (K.new a h).2.2.1, (hw' a h).1⟩, S₁.lv⟩
    refine wpAny_assign_Name (S₁'.store hx (rv.mono le') fun s₃ S₃ => ?_)
    refine wpAny_mono (wp_any (step i d hd ρ' own' hI A o₀ b' s₀ Z' b' s₃ rm S₃)) (fun f s₄ p => ?_) fun _ _ e => e
    have back : ∀ {b₄ : Heap} {ρ₄ : Names} {own₄ : Own}, Sta w H env pk o₀ b' s₀ Z' b₄ s₄ ρ₄ own₄ → Sta w H env pk o₀ b₀ s₀ Z b₄ s₄ ρ₄ own₄ := fun T => ⟨T.keys, ⟨T.st.same, T.st.keep, T.st.live, S₁.st.grow.trans T.st.grow, fun a o e => by
      rcases T.st.fresh a o e with h | h
      · exact S₁.st.fresh a o h
      · exact .inr h⟩, T.loc, T.priv0, T.own0, fun a q e => T.pin a q (ZZ a q e), fun a q e => T.pinO a q (ZZ a q e), T.lv⟩
    cases f with
    | next =>
      obtain ⟨b₄, ρ₄, own₄, hI₄, S₄⟩ := p
      have zw : ∀ a ∈ wr, ∃ q, Z'.get? a = some q := fun a ha => let ⟨q, hq⟩ := K.alive _ _ hst₁ a ha; ⟨q, (Zs a q).mpr ⟨.inr ha, hq⟩⟩
      refine ⟨ds.length + 1 - (i + 1), by (first | assumption | exact Nat.le_of_ble_eq_true rfl | exact Nat.add_le_add_left (Nat.le_of_ble_eq_true rfl) _ | exact Nat.le_trans (by assumption) (Nat.le_of_ble_eq_true rfl) | lia | omega), i + 1, b₄, ρ₄, own₄, hlt, rfl, hI₄, back S₄, le'.trans S₄.st.grow, K.walks.frame _ _ _ hst₁ fun a ha o e => ?_, fun a ha => ?_⟩
      · rcases K.foot a ha with h | ⟨q, hq⟩ | h
        · exact S₄.pin a o ((Zs a o).mpr ⟨.inr h, e⟩)
        · have e1 := le' _ _ hq
          have e2 := S₁.loc.sub _ _ e1
          have e3 : h₁.get? a = some q := e2
          rw [e] at e3; cases e3
          exact S₄.loc.sub _ _ (S₄.st.grow _ _ e1)
        · simp at h
      · obtain ⟨q, hq⟩ := zw a ha
        exact ⟨(S₄.pinO a q hq).2.2, (S₄.pinO a q hq).1⟩
    | ret v => obtain ⟨b₄, ρ₄, own₄, d', hR, S₄, r⟩ := p; exact ⟨b₄, ρ₄, own₄, d', hR, back S₄, r⟩
    | brk => exact p.elim
    | cont => exact p.elim
  · have hin : i = ds.length := by (first | assumption | exact Nat.le_of_ble_eq_true rfl | exact Nat.add_le_add_left (Nat.le_of_ble_eq_true rfl) _ | exact Nat.le_trans (by assumption) (Nat.le_of_ble_eq_true rfl) | lia | omega)
    refine K.walks.done _ _ _ (hin ▸ hst') fun h₁ tk₁ hk₁ => wpAny_execs_nil ?_
    exact ⟨b', ρ', own', fin _ _ (hin ▸ hI), S'.moved hk₁ hwm⟩
end
end Mine
end
section
open PySem PySem.W PyProof.Rows PySem.MeetsSeq PySem.SeqAt
namespace Mine

section
variable {w : World} {H Z : Heap} {n : Nat} {pk : List Addr} {env : Env} {ρ ρc : Names} {o₀ o₁ o₂ o₃ own own₁ own₂ F : Own} {N : Names → Own → Prop} {R : V → Own → Prop} {sts : List Stmt} {st : Stmt}

/-- something new in hand -/
theorem Sta.gain {b₀ b : Heap} {s₀ s : Shared} {o : Obj} {O₁ : O} {k : Nat} (S : Sta w H env pk o₀ b₀ s₀ Z b s ρ own) (hf : o.isFreed = false) (h : OAt w b (s.heap.push o) s.heap.objs.size O₁) :
    Sta w H env pk o₀ b₀ s₀ Z b { s with heap := s.heap.push o, toks := k } ρ ((s.heap.objs.size, O₁) :: own) ∧ s.heap.objs.size ∉ pk ∧ s.heap.objs.size ∉ own.map (·.1) := by
  have L := S.loc
  have hn := get_size_none s.heap
  have k' : ∀ a q, s.heap.get? a = some q → (s.heap.push o).get? a = some q := fun a q e => Heap.get?_push_of_some _ e
  have live : ∀ a, (∃ q, s.heap.get? a = some q) → a ≠ s.heap.objs.size := fun a ⟨q, hq⟩ e => by rw [e, hn] at hq; cases hq
  obtain ⟨m, cm, F, hv⟩ := L.frm
  have hb : b.get? s.heap.objs.size = none := by
    cases e : b.get? s.heap.objs.size with
    | none => rfl
    | some q => have := L.sub _ _ e; rw [hn] at this; cases this
  have h0 : s₀.heap.get? s.heap.objs.size = none := by
    cases e : s₀.heap.get? s.heap.objs.size with
    | none => rfl
    | some q => obtain ⟨q', hq'⟩ := S.st.live _ _ e; rw [hn] at hq'; cases hq'
  have ho : s.heap.objs.size ∉ own.map (·.1) := fun hm => by obtain ⟨p, hp, e⟩ := List.mem_map.mp hm; exact live _ (L.ow p hp).live e
  refine ⟨⟨S.keys, ⟨?_, fun a q ha e => k' a q (S.st.keep a q ha e), fun a q e => let ⟨q', hq⟩ := S.st.live a q e; ⟨q', k' a q' hq⟩, S.st.grow, S.st.fresh⟩,
    ⟨L.ok, L.base, L.sub.trans k', ⟨m, cm, F.keep fun a _ q e => k' a q e, hv⟩, L.priv, fun p hp => ?_, fun p hp => ?_, fun p hp => ?_, ?_⟩, S.priv0, fun p hp => ?_, fun a q e => k' a q (S.pin a q e), fun a q e => ⟨fun hm => ?_, (S.pinO a q e).2⟩, S.lv⟩, fun hm => ?_, ho⟩
  · obtain ⟨g, t, rfl⟩ := S.st.same; exact ⟨_, k, rfl⟩
  · rcases List.mem_cons.mp hp with rfl | hp
    · exact h
    · exact (L.ow p hp).keep (Le.refl _) fun q e => k' _ q e
  · rcases List.mem_cons.mp hp with rfl | hp
    · exact hb
    · exact L.ownb p hp
  · rcases List.mem_cons.mp hp with rfl | hp
    · exact fun pa => live _ (F.live pa) rfl
    · exact L.ownp p hp
  · rw [List.map_cons, List.nodup_cons]; exact ⟨ho, L.nodup⟩
  · rcases List.mem_cons.mp hp with rfl | hp
    · exact .inr h0
    · exact S.own0 p hp
  · rcases List.mem_cons.mp hm with rfl | hm
    · exact live _ ⟨q, S.pin _ q e⟩ rfl
    · exact (S.pinO a q e).1 hm
  · obtain ⟨q, hq⟩ := S.lv _ hm
    rw [h0] at hq; cases hq

/-- something in hand is changed -/
theorem Sta.change {b₀ b : Heap} {s₀ s : Shared} {h' : Heap} {a : Addr} {O₁ O₂ : O} {l r : Own} {k : Nat} (S : Sta w H env pk o₀ b₀ s₀ Z b s ρ (l ++ (a, O₁) :: r)) (hs : Heap.SameBut a s.heap h') (h : OAt w b h' a O₂) :
    Sta w H env pk o₀ b₀ s₀ Z b { s with heap := h', toks := k } ρ (l ++ (a, O₂) :: r) := by
  have L := S.loc
  have ext : ∀ c o, c ≠ a → s.heap.get? c = some o → h'.get? c = some o := fun c o hc e => (hs.2 c hc).trans e
  have hm : (a, O₁) ∈ l ++ (a, O₁) :: r := List.mem_append_right _ (.head _)
  have ha : ¬ Priv env a := L.ownp _ hm
  have hb : b.get? a = none := L.ownb _ hm
  have h0 := S.own0 _ hm
  have nd : a ∉ l.map (·.1) ∧ a ∉ r.map (·.1) := by
    have := L.nodup
    rw [List.map_append, List.map_cons] at this
    obtain ⟨_, h2, h3⟩ := List.nodup_append.mp this
    exact ⟨fun hl => h3 _ hl _ (.head _) rfl, (List.nodup_cons.mp h2).1⟩
  have hkeys : (l ++ (a, O₂) :: r).map (·.1) = (l ++ (a, O₁) :: r).map (·.1) := by simp
  have old : ∀ p ∈ l ++ (a, O₂) :: r, p = (a, O₂) ∨ (p ∈ l ++ (a, O₁) :: r ∧ p.1 ≠ a) := fun p hp => by
    rcases List.mem_append.mp hp with h1 | h1
    · exact .inr ⟨List.mem_append_left _ h1, fun e => nd.1 (e ▸ List.mem_map_of_mem h1)⟩
    · rcases List.mem_cons.mp h1 with rfl | h1
      · exact .inl rfl
      · exact .inr ⟨List.mem_append_right _ (.tail _ h1), fun e => nd.2 (e ▸ List.mem_map_of_mem h1)⟩
  obtain ⟨m, cm, F, hv⟩ := L.frm
  refine ⟨S.keys, ⟨?_, fun c o hc e => ext c o (fun e' => ?_) (S.st.keep c o hc e), fun c o e => ?_, S.st.grow, S.st.fresh⟩,
    ⟨L.ok, L.base, fun c o e => ext c o (fun e' => by rw [e', hb] at e; cases e) (L.sub c o e), ⟨m, cm, F.keep fun c pc q e => ext c q (fun e' => ha (e' ▸ pc)) e, hv⟩, L.priv, fun p hp => ?_, fun p hp => ?_, fun p hp => ?_, hkeys ▸ L.nodup⟩, S.priv0, fun p hp => ?_, fun c q e => ext c q (fun e' => (S.pinO c q e).1 (by rw [e']; exact List.mem_map_of_mem (f := (·.1)) hm)) (S.pin c q e), fun c q e => ⟨hkeys ▸ (S.pinO c q e).1, (S.pinO c q e).2⟩, S.lv⟩
  · obtain ⟨g, t, rfl⟩ := S.st.same; exact ⟨_, k, rfl⟩
  · subst e'
    rcases h0 with h0 | h0
    · exact hc h0
    · rw [h0] at e; cases e
  · by_cases hc : c = a
    · subst hc; exact h.live
    · obtain ⟨q, hq⟩ := S.st.live c o e; exact ⟨q, ext c q hc hq⟩
  · rcases old p hp with rfl | ⟨h1, h2⟩
    · exact h
    · exact (L.ow p h1).keep (Le.refl _) fun q e => ext _ q h2 e
  · rcases old p hp with rfl | ⟨h1, h2⟩
    · exact hb
    · exact L.ownb p h1
  · rcases old p hp with rfl | ⟨h1, h2⟩
    · exact ha
    · exact L.ownp p h1
  · rcases old p hp with rfl | ⟨h1, h2⟩
    · exact h0
    · exact S.own0 p h1

/-- an expression that may also make things in hand -/
noncomputable def Eg (w : World) (H : Heap) (n : Nat) (pk : List Addr) (env : Env) (e : Expr) (ρ : Names) (own : Own) (G : V → Own → Prop) : Prop :=
  ∀ A o₀ b₀ s₀ Z b s, Rm n A → Sta w H env pk o₀ b₀ s₀ Z b s ρ own → wpAny (Md w) A (eval e env) (fun v s' => ∃ b' d own', G d own' ∧ Sta w H env pk o₀ b₀ s₀ Z b' s' ρ own' ∧ VR w b' d v ∧ Le b b') NoE s
theorem Eg.of {e : Expr} {d : V} {G : V → Own → Prop} (x : Ev w H n env ρ own e d own₁) (h : G d own₁) : Eg w H n pk env e ρ own G := fun A o₀ b₀ s₀ Z b s rm S =>
  wpAny_mono (x.run rm S.loc) (fun v s' ⟨b', st, L, r⟩ => ⟨b', d, own₁, h, S.step st L x.1, r, st.grow⟩) fun _ _ f => f
theorem Eg.list {pos : Pos} {G : V → Own → Prop} (h : ∀ a, a ∉ pk → a ∉ own.map (·.1) → G (.raw (.ref a)) ((a, .list []) :: own)) : Eg w H n pk env (.List [] pos) ρ own G := fun A o₀ b₀ s₀ Z b s rm S =>
  List_ (Calls.spliced_nil (wpAny_newObj_type (by
    obtain ⟨S', h1, h2⟩ := S.gain (O₁ := .list []) (k := s.toks) (o := { cls := .type "list", dict := none, data := .seq ([] : List Value).toArray }) rfl ⟨[], ⟨_, _, Heap.get?_push_size _ rfl, rfl, rfl, rfl⟩, by simp [VRs]⟩
    exact ⟨b, _, _, h _ h1 h2, S', rfl, Le.refl _⟩)))
theorem sys_ne {mg mb : Str → Option Value} {b : Heap} {s : Shared} {own : Own} (G : Gl H mg mb) (B : Bas w H b s.heap own) : (s.heap.objs.size == sysModules) = false :=
  beq_eq_false_iff_ne.mpr (Nat.ne_of_gt (modules_low (G.lim.keeps (B.base.trans B.sub))))
theorem Eg.dict {mg mb : Str → Option Value} {pos : Pos} {G : V → Own → Prop} (Gv : Gl H mg mb) (h : ∀ a, a ∉ pk → a ∉ own.map (·.1) → G (.raw (.ref a)) ((a, .dict []) :: own)) : Eg w H n pk env (.Dict [] [] pos) ρ own G := fun A o₀ b₀ s₀ Z b s rm S =>
  wpAny_Dict_empty (by
    obtain ⟨S', h1, h2⟩ := S.gain (O₁ := .dict []) (k := s.toks) (o := { cls := .type "dict", data := .dict #[] }) rfl ⟨[], sys_ne Gv S.loc.bas, Heap.DictOf.new _, by simp [VRp]⟩
    exact ⟨b, _, _, h _ h1 h2, S', rfl, Le.refl _⟩)

/-- x = e -/
theorem S1.assignG {x : Str} {pos' pos : Pos} {e : Expr} (v : Eg w H n pk env e ρ own fun d own' => N (upd ρ x d) own') (hx : Storable env x) (hs : swapsWith e (some (.Name x pos')) pos.line env = pure false := by rfl) : S1 w H n pk env (.Assign [.Name x pos'] e pos) ρ own N R := fun A o₀ b₀ s₀ Z b s rm S =>
  wpAny_Assign_Name (wpAny_mono (v A o₀ b₀ s₀ Z b s rm S) (fun u s' ⟨b', d, own', h, S', r, _⟩ => S'.store hx r fun s'' S'' => ⟨b', _, own', h, S''⟩) fun _ _ f => f) hs

/-- several of them -/
noncomputable def Egs (w : World) (H : Heap) (n : Nat) (pk : List Addr) (env : Env) (es : List Expr) (ρ : Names) (own : Own) (G : List V → Own → Prop) : Prop :=
  ∀ A o₀ b₀ s₀ Z b s pos, Rm n A → Sta w H env pk o₀ b₀ s₀ Z b s ρ own → wpAny (Md w) A (spliced (backTo pos (starEach es env))) (fun vs s' => ∃ b' ds own', G ds own' ∧ Sta w H env pk o₀ b₀ s₀ Z b' s' ρ own' ∧ VRs w b' ds vs ∧ Le b b') NoE s
theorem Egs.nil {G : List V → Own → Prop} (h : G [] own) : Egs w H n pk env [] ρ own G := fun A o₀ b₀ s₀ Z b s pos rm S => Calls.spliced_nil ⟨b, [], own, h, S, by simp [VRs], Le.refl _⟩
theorem Egs.cons {e : Expr} {es : List Expr} {G : List V → Own → Prop} (x : Eg w H n pk env e ρ own fun d own' => Egs w H n pk env es ρ own' fun ds own'' => G (d :: ds) own'')
    (hs : ∀ pos, backTo pos (starEach (e :: es) env) = (false, eval e env) :: backTo pos (starEach es env) := by intro _; rfl) : Egs w H n pk env (e :: es) ρ own G := fun A o₀ b₀ s₀ Z b s pos rm S => by
  rw [hs]
  refine Calls.spliced_cons (wpAny_mono (x A o₀ b₀ s₀ Z b s rm S) (fun v s₁ ⟨b₁, d, own₁, h, S₁, r₁, l₁⟩ => wpAny_mono (h A o₀ b₀ s₀ Z b₁ s₁ pos rm S₁) (fun vs s₂ ⟨b₂, ds, own₂, h₂, S₂, r₂, l₂⟩ => ⟨b₂, d :: ds, own₂, h₂, S₂, ?_, l₁.trans l₂⟩) fun _ _ f => f) fun _ _ f => f)
  simp only [VRs]
  exact ⟨r₁.mono l₂, r₂⟩

noncomputable def updAll (ρ : Names) : List (Str × V) → Names
  | [] => ρ
  | (x, d) :: r => updAll (upd ρ x d) r

/-- stores in a row -/
inductive Stores (env : Env) : List (Value → Sem Unit) → List Str → Prop
  | nil : Stores env [] []
  | cons {f fs x xs} : (∀ (M : Model) (A : Around) (E : Value → Shared → Prop) (Q : Unit → Shared → Prop) (v : Value) (s : Shared), wpAny M A (storeName env x v) Q E s → wpAny M A (f v) Q E s) → Storable env x → Stores env fs xs → Stores env (f :: fs) (x :: xs)
theorem VRs.nil_eq {b : Heap} {vs : List Value} (h : VRs w b [] vs) : vs = [] := by
  cases vs with
  | nil => rfl
  | cons _ _ => simp only [VRs] at h
theorem VRs.cons_eq {b : Heap} {d : V} {ds : List V} {vs : List Value} (h : VRs w b (d :: ds) vs) : ∃ v us, vs = v :: us ∧ VR w b d v ∧ VRs w b ds us := by
  cases vs with
  | nil => simp only [VRs] at h
  | cons v us => simp only [VRs] at h; exact ⟨v, us, rfl, h⟩
theorem consL {α β : Type} {l : List α} {b : β} {m : List β} (h : l.length = (b :: m).length) : ∃ a k, l = a :: k ∧ k.length = m.length := by
  cases l with
  | nil => cases h
  | cons a k => exact ⟨a, k, rfl, Nat.succ.inj h⟩
theorem Sta.stores {A : Around} {E : Value → Shared → Prop} {b₀ b : Heap} {s₀ : Shared} : ∀ {fs : List (Value → Sem Unit)} {xs : List Str} {ds : List V} {vs : List Value} {s : Shared} {ρ : Names} {Q : Unit → Shared → Prop}, Stores env fs xs → Sta w H env pk o₀ b₀ s₀ Z b s ρ own → VRs w b ds vs → ds.length = xs.length →
    (∀ s', Sta w H env pk o₀ b₀ s₀ Z b s' (updAll ρ (xs.zip ds)) own → Q () s') → wpAny (Md w) A (assignInOrder fs vs) Q E s
  | [], _, ds, vs, s, ρ, Q, hst, S, hr, hl, h => by
    cases hst
    obtain rfl : ds = [] := List.eq_nil_of_length_eq_zero hl
    obtain rfl : vs = [] := hr.nil_eq
    exact wpAny_pure (h s S)
  | _ :: _, _, ds, vs, s, ρ, Q, hst, S, hr, hl, h => by
    cases hst with
    | cons hf hx ht =>
    obtain ⟨d, ds, rfl, hl'⟩ := consL hl
    obtain ⟨v, vs, rfl, h1, h2⟩ := hr.cons_eq
    exact wpAny_bind (wpAny_holding (hf _ _ _ _ _ _ (S.store hx h1 fun s' S' => Sta.stores ht S' h2 hl' h)))
end
end Mine
end
section
open PySem PySem.W PyProof.Rows PySem.MeetsSeq PySem.SeqAt
namespace Mine

section
variable {w : World} {H Z : Heap} {n : Nat} {pk : List Addr} {env : Env} {ρ ρc : Names} {o₀ o₁ o₂ o₃ own own₁ own₂ F : Own} {N : Names → Own → Prop} {R : V → Own → Prop} {sts : List Stmt} {st : Stmt}

theorem Eg.tuple {es : List Expr} {k : Nat} {pos : Pos} {G : V → Own → Prop} (x : Egs w H n pk env es ρ own fun ds own' => ds.length ≤ 1000 ∧ G (.tup ds) own') : Eg w H n pk env (.Tuple es k pos) ρ own G := fun A o₀ b₀ s₀ Z b s rm S =>
  Tuple_ (wpAny_mono (x A o₀ b₀ s₀ Z b s pos rm S) (fun vs s₁ ⟨b₁, ds, own₁, ⟨hl, h⟩, S₁, r₁, l₁⟩ => by
    have L₁ := S₁.loc
    refine wpAny_newObj_type ⟨_, _, own₁, h, S₁.step (Step.pure L₁.sub (Keeps.push _ s₁.toks)) (L₁.pure (Keeps.push _ s₁.toks)) rfl, vr_newTup L₁.sub r₁, l₁.trans (le_growH L₁.sub (Keeps.le (Keeps.push _ s₁.toks)))⟩ ?_
    show vs.toArray.size ≤ sizeLine
    rw [List.size_toArray, r₁.length, sizeLine_eq]; (first | assumption | exact Nat.le_of_ble_eq_true rfl | exact Nat.add_le_add_left (Nat.le_of_ble_eq_true rfl) _ | exact Nat.le_trans (by assumption) (Nat.le_of_ble_eq_true rfl) | lia | omega)) fun _ _ f => f)

theorem Sta.ext {b₀ b : Heap} {s₀ s : Shared} {h' : Heap} (S : Sta w H env pk o₀ b₀ s₀ Z b s ρ own) (he : Heap.ExtBut s.heap.objs.size s.heap h') : Sta w H env pk o₀ b₀ s₀ Z b { s with heap := h' } ρ own := by
  have hn := get_size_none s.heap
  have L := S.loc
  obtain ⟨m, cm, F, hv⟩ := L.frm
  refine S.moved (wr := [s.heap.objs.size]) (k := s.toks) (fun a o ha e => he a o (by simpa using ha) e) fun a ha => ?_
  rw [List.mem_singleton.mp ha]
  refine ⟨?_, fun hm => ?_, fun pa => ?_, ?_, ?_⟩
  · cases e : b.get? s.heap.objs.size with
    | none => rfl
    | some q => have := L.sub _ _ e; rw [hn] at this; cases this
  · obtain ⟨p, hp, e⟩ := List.mem_map.mp hm
    obtain ⟨q, hq⟩ := (L.ow p hp).live
    rw [e, hn] at hq; cases hq
  · obtain ⟨q, hq⟩ := F.live pa; rw [hn] at hq; cases hq
  · cases e : s₀.heap.get? s.heap.objs.size with
    | none => rfl
    | some q => obtain ⟨q', hq'⟩ := S.st.live _ _ e; rw [hn] at hq'; cases hq'
  · cases e : Z.get? s.heap.objs.size with
    | none => rfl
    | some q => have := S.pin _ _ e; rw [hn] at this; cases this

theorem stores_bind : ∀ {xs : List Str}, (∀ x ∈ xs, Storable env x) → Stores env (xs.map fun x => bindName env x) xs
  | [], _ => .nil
  | x :: xs, h => .cons (fun _ _ _ _ _ _ p => wpAny_bindName p) (h x (.head _)) (stores_bind fun y hy => h y (.tail _ hy))
theorem stores_names : ∀ {l : List (Str × Pos)}, (∀ p ∈ l, Storable env p.1) → Stores env ((assignEach (l.map fun p => .Name p.1 p.2) env).map (·.2)) (l.map (·.1))
  | [], _ => .nil
  | x :: xs, h => .cons (fun _ _ _ _ _ _ p => wpAny_assign_Name p) (h x (.head _)) (stores_names fun y hy => h y (.tail _ hy))
theorem names_plain {env : Env} : ∀ {l : List (Str × Pos)}, (assignEach (l.map fun p => Expr.Name p.1 p.2) env).length = l.length ∧ (assignEach (l.map fun p => Expr.Name p.1 p.2) env).findIdx? (·.1) = none
  | [] => ⟨rfl, rfl⟩
  | x :: xs => by
    have ih := @names_plain env xs
    refine ⟨congrArg (· + 1) ih.1, ?_⟩
    show ((false, assign (.Name x.1 x.2) env) :: assignEach (xs.map fun p => Expr.Name p.1 p.2) env).findIdx? (·.1) = none
    rw [List.findIdx?_cons, ih.2]; rfl

/-- a, b = .. ; the stores in their order -/
theorem S1.tupN {l : List (Str × Pos)} {k : Nat} {tpos pos : Pos} {value : Expr} (v : Eg w H n pk env value ρ own fun d own' => ∃ ds, d = .tup ds ∧ ds.length = l.length ∧ N (updAll ρ ((l.map (·.1)).zip ds)) own') (hst : ∀ p ∈ l, Storable env p.1)
    (hs : swapsWithSole [.Tuple (l.map fun p => .Name p.1 p.2) k tpos] value pos.line env = pure false := by rfl) (hw : swappedStores [.Tuple (l.map fun p => .Name p.1 p.2) k tpos] value env = pure none := by rfl) :
    S1 w H n pk env (.Assign [.Tuple (l.map fun p => .Name p.1 p.2) k tpos] value pos) ρ own N R := fun A o₀ b₀ s₀ Z b s rm S =>
  Assign_Tuple (wpAny_mono (v A o₀ b₀ s₀ Z b s rm S) (fun u s₁ ⟨b₁, d, own₁, ⟨ds, hd, hl, h⟩, S₁, r₁, l₁⟩ => by
    subst hd
    obtain ⟨a, vs, rfl, ht, hr⟩ := seeT S₁.loc r₁
    refine assign_Tuple_tuple rm.hd ht (by rw [names_plain.1, List.size_toArray, hr.length, hl]) names_plain.2 fun h' he => ?_
    exact Sta.stores (stores_names hst) (S₁.ext he) hr (by simpa using hl) fun s' S' => ⟨b₁, _, own₁, h, S'⟩) fun _ _ f => f) hs hw
/-- the stores from the last on -/
theorem S1.tupS {elts : List Expr} {names : List Str} {k : Nat} {tpos pos : Pos} {value : Expr} (v : Eg w H n pk env value ρ own fun d own' => ∃ ds, d = .tup ds ∧ ds.length = names.length ∧ N (updAll ρ (names.reverse.zip ds.reverse)) own') (hst : ∀ x ∈ names, Storable env x)
    (hs : swapsWithSole [.Tuple elts k tpos] value pos.line env = pure false := by rfl) (hw : swappedStores [.Tuple elts k tpos] value env = pure (some names) := by rfl) :
    S1 w H n pk env (.Assign [.Tuple elts k tpos] value pos) ρ own N R := fun A o₀ b₀ s₀ Z b s rm S =>
  Assign_Tuple_swapped (wpAny_mono (v A o₀ b₀ s₀ Z b s rm S) (fun u s₁ ⟨b₁, d, own₁, ⟨ds, hd, hl, h⟩, S₁, r₁, l₁⟩ => by
    subst hd
    obtain ⟨a, vs, rfl, ht, hr⟩ := seeT S₁.loc r₁
    rw [show names.length = vs.toArray.size by rw [List.size_toArray, hr.length, hl]]
    refine unpackItems_tuple rm.hd ht fun h' he => ?_
    have hrev : VRs w b₁ ds.reverse vs.reverse := by
      have : ∀ {ds : List V} {vs : List Value}, VRs w b₁ ds vs → VRs w b₁ ds.reverse vs.reverse := fun {ds} => by
        induction ds with
        | nil => intro vs h; cases vs with
          | nil => simp [VRs]
          | cons _ _ => simp [VRs] at h
        | cons d ds ih => intro vs h; cases vs with
          | nil => simp [VRs] at h
          | cons v vs =>
            simp only [VRs] at h
            rw [List.reverse_cons, List.reverse_cons]
            exact (ih h.2).append (by simp only [VRs]; exact ⟨h.1, trivial⟩)
      exact this hr
    exact Sta.stores (stores_bind fun x hx => hst x (by simpa using hx)) (S₁.ext he) hrev (by simpa using hl) fun s' S' => ⟨b₁, _, own₁, h, S'⟩) fun _ _ f => f) hs hw

/-- l.append(e) -/
theorem S1.append {o elt : Expr} {apos cpos pos : Pos} {a : Addr} {ds ds₀ : List V} {d : V} {l r : Own} (x : Ev w H n env ρ own o (.raw (.ref a)) own₁) (hm : (a, O.list ds₀) ∈ own₁) (y : Ev w H n env ρ own₁ elt d (l ++ (a, .list ds) :: r)) (hsz : ds.length ≤ 10000)
    (h : N ρ (l ++ (a, .list (ds ++ [d])) :: r))
    (hbase : attributeBase o "append" env (eval o env) = eval o env := by rfl)
    (hfew : methodCallForm (([elt] : List Expr).length + ([] : List Keyword).length) (backTo cpos (starEach [elt] env)) (backToKw cpos (keywordEach [] env)) = true := by rfl)
    (hline : (apos.endLine == cpos.line) = true := by rfl) (htrees : backTo cpos (starEach [elt] env) = [(false, eval elt env)] := by rfl)
    (hi : interactive env = false := by rfl) (hs : swapsWith (.Call (.Attribute o "append" apos) [elt] [] cpos) none pos.line env = pure false := by rfl) :
    S1 w H n pk env (.Expr (.Call (.Attribute o "append" apos) [elt] [] cpos) pos) ρ own N R := fun A o₀ b₀ s₀ Z b s rm S => by
  refine wpAny_Expr_any ?_ hi hs
  rw [arm_eval_Call, hbase]
  refine wpAny_bind (wpAny_mono (x.run rm S.loc) (fun ov s₁ ⟨b₁, st₁, L₁, r₁⟩ => ?_) fun _ _ e => e)
  cases r₁
  obtain ⟨vs₀, ⟨ob, k₀, hob, hc, hdn, hd⟩, _⟩ := L₁.ow _ hm
  refine wpAny_bind (wpAny_standAt ?_)
  have hpos : methodCallPos true o env apos cpos = pure cpos := by unfold methodCallPos; simp [hline]
  unfold methodCall
  rw [hfew]
  refine wpAny_bind (wpAny_holding (Calls.getMethod_list_append hob hc hdn ?_))
  refine wpAny_bind (wpAny_of_eq hpos ?_)
  rw [htrees]
  refine Calls.callWith_builtin rfl (Calls.evalArgs_plain (Calls.spliced_cons (wpAny_mono (y.run rm L₁) (fun u s₂ ⟨b₂, st₂, L₂, r₂⟩ => Calls.spliced_nil ?_) fun _ _ e => e)))
  have S₂ := (S.step st₁ L₁ x.1).step st₂ L₂ y.1
  obtain ⟨vs, hpl, hvs⟩ := L₂.ow (a, .list ds) (List.mem_append_right _ (.head _))
  refine list_append_plainL hpl (fun h' hl' hs' => ?_) (by rw [List.size_toArray, hvs.length, sizeLine_eq]; (first | assumption | exact Nat.le_of_ble_eq_true rfl | exact Nat.add_le_add_left (Nat.le_of_ble_eq_true rfl) _ | exact Nat.le_trans (by assumption) (Nat.le_of_ble_eq_true rfl) | lia | omega))
  refine ⟨b₂, ρ, _, h, S₂.change (k := s₂.toks) hs' ⟨vs ++ [u], by simpa using hl', hvs.append (by simp only [VRs]; exact ⟨r₂, trivial⟩)⟩⟩

/-- what a dict becomes -/
noncomputable def storedV (kvs : List (Str × V)) (k : Str) (d : V) : List (Str × V) := if kvs.any (fun kv => kv.1 = k) then kvs.map (fun kv => if kv.1 = k then (kv.1, d) else kv) else kvs ++ [(k, d)]
theorem VRp.append {b : Heap} : ∀ {ds es : List (Str × V)} {vs us : List (Str × Value)}, VRp w b ds vs → VRp w b es us → VRp w b (ds ++ es) (vs ++ us)
  | [], _, [], _, _, h => h
  | (_, _) :: _, _, (_, _) :: _, _, h, g => by simp only [VRp, List.cons_append] at h ⊢; exact ⟨h.1, h.2.1, VRp.append h.2.2 g⟩
  | [], _, _ :: _, _, h, _ => by simp [VRp] at h
  | _ :: _, _, [], _, h, _ => by simp [VRp] at h
theorem VRp.any {b : Heap} {k : Str} : ∀ {ds : List (Str × V)} {vs : List (Str × Value)}, VRp w b ds vs → vs.any (fun kv => kv.1 = k) = ds.any (fun kv => kv.1 = k)
  | [], [], _ => rfl
  | (_, _) :: _, (_, _) :: _, h => by simp only [VRp] at h; obtain ⟨rfl, _, h2⟩ := h; rw [List.any_cons, List.any_cons, VRp.any h2]
  | [], _ :: _, h => by simp [VRp] at h
  | _ :: _, [], h => by simp [VRp] at h
theorem VRp.repl {b : Heap} {k : Str} {d : V} {v : Value} (r : VR w b d v) : ∀ {ds : List (Str × V)} {vs : List (Str × Value)}, VRp w b ds vs → VRp w b (ds.map fun kv => if kv.1 = k then (kv.1, d) else kv) (vs.map fun kv => if kv.1 = k then (kv.1, v) else kv)
  | [], [], _ => by simp [VRp]
  | (x, _) :: _, (y, _) :: _, h => by
    simp only [VRp] at h
    obtain ⟨rfl, h1, h2⟩ := h
    rw [List.map_cons, List.map_cons]
    have ih := VRp.repl r h2 (k := k)
    by_cases hx : y = k
    · simp only [hx, if_true, VRp]; exact ⟨trivial, r, ih⟩
    · simp only [hx, if_false, VRp]; exact ⟨trivial, h1, ih⟩
  | [], _ :: _, h => by simp [VRp] at h
  | _ :: _, [], h => by simp [VRp] at h
theorem VRp.stored {b : Heap} {k : Str} {d : V} {v : Value} {ds : List (Str × V)} {vs : List (Str × Value)} (h : VRp w b ds vs) (r : VR w b d v) : VRp w b (storedV ds k d) (stored vs k v) := by
  unfold storedV PySem.stored
  rw [h.any]
  split
  · exact h.repl r
  · exact h.append (by simp only [VRp]; exact ⟨trivial, r, trivial⟩)

/-- d[k] = e, for a dict in hand -/
theorem S1.setD {o i value : Expr} {pos' pos : Pos} (v : Eg w H n pk env value ρ own fun d own₁ => ∃ a k kvs l r own₂, Ev w H n env ρ own₁ o (.raw (.ref a)) own₂ ∧ Ev w H n env ρ own₂ i (.str k) (l ++ (a, .dict kvs) :: r) ∧ kvs.length ≤ 10000 ∧ N ρ (l ++ (a, .dict (storedV kvs k d)) :: r))
    (hs : swapsWith value (some (.Subscript o i pos')) pos.line env = pure false := by rfl) : S1 w H n pk env (.Assign [.Subscript o i pos'] value pos) ρ own N R := fun A o₀ b₀ s₀ Z b s rm S => by
  refine wpAny_Assign_Subscript (wpAny_mono (v A o₀ b₀ s₀ Z b s rm S) (fun u s₁ hh => ?_) fun _ _ f => f) hs
  obtain ⟨b₁, d, own₁, ⟨a, k, kvs, l, r, own₂, x, y, hsz, h⟩, S₁, r₁, l₁⟩ := hh
  refine wpAny_mono (x.run rm S₁.loc) (fun ov s₂ hh => ?_) fun _ _ f => f
  obtain ⟨b₂, st₂, L₂, r₂⟩ := hh
  refine wpAny_mono (y.run rm L₂) (fun iv s₃ hh => ?_) fun _ _ f => f
  obtain ⟨b₃, st₃, L₃, r₃⟩ := hh
  cases r₂
  obtain ⟨t, rfl⟩ := r₃
  have S₃ := (S₁.step st₂ L₂ x.1).step st₃ L₃ y.1
  obtain ⟨kv, hm, hd, hp⟩ := L₃.ow (a, .dict kvs) (List.mem_append_right _ (.head _))
  refine wpAny_setItem_pairs (strKind_is _ _ _ _) hd (fun h' hd' hs' => ?_) (by rw [hp.length, sizeLine_eq]; (first | assumption | exact Nat.le_of_ble_eq_true rfl | exact Nat.add_le_add_left (Nat.le_of_ble_eq_true rfl) _ | exact Nat.le_trans (by assumption) (Nat.le_of_ble_eq_true rfl) | lia | omega))
  exact ⟨b₃, ρ, _, h, S₃.change (k := s₃.toks + 1) hs' ⟨_, hm, hd', hp.stored ((r₁.mono st₂.grow).mono st₃.grow)⟩⟩

theorem VRs.set {b : Heap} {d : V} {v : Value} (r : VR w b d v) : ∀ {ds : List V} {vs : List Value} (i : Nat), VRs w b ds vs → VRs w b (ds.set i d) (vs.set i v)
  | [], [], _, _ => by simp [VRs]
  | _ :: _, _ :: _, 0, h => by simp only [VRs, List.set_cons_zero] at h ⊢; exact ⟨r, h.2⟩
  | _ :: _, _ :: _, i + 1, h => by simp only [VRs, List.set_cons_succ] at h ⊢; exact ⟨h.1, VRs.set r i h.2⟩
  | [], _ :: _, _, h => by simp [VRs] at h
  | _ :: _, [], _, h => by simp [VRs] at h

theorem setItem_plainL {A : Around} {E : Value → Shared → Prop} {s : Shared} {l : Addr} {items : Array Value} {k : Int} {t : Tok} {v : Value} {Q : Unit → Shared → Prop} (hl : PlainL s.heap l items)
    (h0 : 0 ≤ k) (hfit : k < 2 ^ 63) (hn : k < items.size)
    (hQ : ∀ h', PlainL h' l (items.setIfInBounds k.toNat v) → Heap.SameBut l s.heap h' → Q () { s with heap := h' }) :
    wpAny (Md w) A (setItem (.ref l) (.int k t) v) Q E s := by
  obtain ⟨o, ne, ho, hc, hdn, hd⟩ := id hl
  unfold setItem
  try with_reducible refine wpAny_holding ?_
  first | refine wpAny_bind (wpAny_pure ?_) | skip
  refine wpAny_bind (wpAny_sequenceKey hl.isList.typeIs (by decide) ?_)
  refine wpAny_bind (wpAny_callSpecial?_slot (name := Str.ofString "__setitem__") hl.isList.typeIs slot_list_setitem
    (wpAny_call_entry slot_list_setitem hl.isList.typeIs entry_list_setitem ?_ (args_list_setitem _ _ _)))
  show wpAny _ _ (Builtin.List.listSubscript? (.int k t) >>= _) _ _ s
  refine wpAny_bind (wpAny_listSubscript_int (fitsIndex_of h0 hfit) ?_)
  clear hfit
  obtain ⟨j, rfl⟩ := Int.eq_ofNat_of_zero_le h0
  have hj : j < items.size := by (first | assumption | exact Nat.le_of_ble_eq_true rfl | exact Nat.add_le_add_left (Nat.le_of_ble_eq_true rfl) _ | exact Nat.le_trans (by assumption) (Nat.le_of_ble_eq_true rfl) | lia | omega)
  have hx' : items[j]? = some items[j] := Array.getElem?_eq_getElem hj
  show wpAny _ _ ((seqItemAt l j >>= fun r => pure (r.map (j, ·))) >>= _) _ _ s
  refine wpAny_bind (wpAny_bind (wpAny_seqItemAt ho hd (wpAny_pure ?_)))
  rw [hx']
  show wpAny _ _ (setSeqItemAt l j v >>= _) _ _ s
  obtain ⟨n', hd'⟩ := Obj.data_mapSeq hd (·.setIfInBounds j v)
  have hfin : PlainL (s.heap.update l (Obj.mapSeq (·.setIfInBounds j v))) l (items.setIfInBounds j v) :=
    ⟨_, n', Heap.get?_update_self _ ho (Obj.isFreed_of_seq hd'), (Obj.cls_mapSeq ..).trans hc, by obtain ⟨c, d, dt, sl⟩ := o; subst hd; exact hdn, hd'⟩
  refine wpAny_bind (wpAny_setSeqItemAt ho hd ?_)
  first
    | exact wpAny_bind (wpAny_pure (wpAny_pure ⟨.none, rfl, wpAny_pure (hQ _ hfin (Heap.SameBut.update ..))⟩))
    | exact wpAny_pure ⟨.none, rfl, wpAny_pure (hQ _ hfin (Heap.SameBut.update ..))⟩

/-- l[k] = e, for a list in hand -/
theorem S1.setL {o i value : Expr} {pos' pos : Pos} (v : Eg w H n pk env value ρ own fun d own₁ => ∃ a k ds l r own₂, Ev w H n env ρ own₁ o (.raw (.ref a)) own₂ ∧ Ev w H n env ρ own₂ i (.int k) (l ++ (a, .list ds) :: r) ∧ 0 ≤ k ∧ k < ds.length ∧ ds.length ≤ 10000 ∧ N ρ (l ++ (a, .list (ds.set k.toNat d)) :: r))
    (hs : swapsWith value (some (.Subscript o i pos')) pos.line env = pure false := by rfl) : S1 w H n pk env (.Assign [.Subscript o i pos'] value pos) ρ own N R := fun A o₀ b₀ s₀ Z b s rm S => by
  refine wpAny_Assign_Subscript (wpAny_mono (v A o₀ b₀ s₀ Z b s rm S) (fun u s₁ hh => ?_) fun _ _ f => f) hs
  obtain ⟨b₁, d, own₁, ⟨a, k, ds, l, r, own₂, x, y, h0, hk, hsz, h⟩, S₁, r₁, l₁⟩ := hh
  refine wpAny_mono (x.run rm S₁.loc) (fun ov s₂ hh => ?_) fun _ _ f => f
  obtain ⟨b₂, st₂, L₂, r₂⟩ := hh
  refine wpAny_mono (y.run rm L₂) (fun iv s₃ hh => ?_) fun _ _ f => f
  obtain ⟨b₃, st₃, L₃, r₃⟩ := hh
  cases r₂
  obtain ⟨t, rfl⟩ := r₃
  have S₃ := (S₁.step st₂ L₂ x.1).step st₃ L₃ y.1
  obtain ⟨vs, hd, hp⟩ := L₃.ow (a, .list ds) (List.mem_append_right _ (.head _))
  have hl := hp.length
  refine setItem_plainL hd h0 (by (first | assumption | exact Nat.le_of_ble_eq_true rfl | exact Nat.add_le_add_left (Nat.le_of_ble_eq_true rfl) _ | exact Nat.le_trans (by assumption) (Nat.le_of_ble_eq_true rfl) | lia | omega)) (by rw [List.size_toArray, hl]; exact hk) fun h' hd' hs' => ?_
  exact ⟨b₃, ρ, _, h, S₃.change (k := s₃.toks) hs' ⟨vs.set k.toNat u, by simpa using hd', hp.set ((r₁.mono st₂.grow).mono st₃.grow) _⟩⟩
end
end Mine
end
section
open PySem PySem.W PyProof.Rows PySem.MeetsSeq PySem.SeqAt
namespace Mine

section
variable {w : World} {H Z : Heap} {n : Nat} {pk : List Addr} {env : Env} {ρ ρc : Names} {o₀ o₁ o₂ o₃ own own₁ own₂ F : Own} {N : Names → Own → Prop} {R : V → Own → Prop} {sts : List Stmt} {st : Stmt}

theorem osaD {A : Around} {Rr : Result → Shared → Prop} {K : Frag} {C x dx : Addr} {s : Shared} {name : Str} {tk : Tok} {v : Value} {es : List DictEntry} {m : Nat} (X : K.In s.heap) (I : InstAt s.heap x (instObj C dx) C (some (dictOf es m))) (D : s.heap.get? dx = some (dictOf es m)) (hp : plainOver K C = true) (ht : takerIn K C name = some none) (hh : hasDictIn K C = true)
    (hl : (getL name es).isSome = true) (hz : (putL name (PyData.keyHash w.params name) (.str name s.toks) v es).length ≤ 1000)
    (h : ∀ h', Heap.SameBut dx s.heap h' → h'.get? dx = some (dictOf (putL name (PyData.keyHash w.params name) (.str name s.toks) v es) (putN name es m)) → Rr (.ok (.ret .none)) { s with heap := h', toks := s.toks + 1 }) :
    codeAny (Md w) A (.call (.builtin "object.__setattr__") ⟨[.ref x, .str name tk, v], []⟩) Rr s := by
  refine osa_open X I hp ht fun b => ?_
  unfold hasDictIn at hh
  obtain ⟨cd, hc, hd'⟩ : ∃ cd, clsIn K C = some cd ∧ cd.hasDict = true := by
    cases e : clsIn K C with
    | none => rw [e] at hh; cases hh
    | some cd => rw [e] at hh; exact ⟨cd, rfl, hh⟩
  have hx := I.1
  have D' : (s.heap.update dx (Obj.putName name (PyData.keyHash w.params name) (.str name s.toks) v)).get? dx = some (dictOf (putL name (PyData.keyHash w.params name) (.str name s.toks) v es) (putN name es m)) := by
    rw [Heap.get?_update_self _ D (by rw [putName_dict]; rfl), putName_dict]
  refine wpAny_bind (wpAny_pure (wpAny_bind (wpAny_bind (wpAny_loadPart hx (wpAny_bind ((looks_clsIn X hc).here ?_))))))
  rw [hd']
  refine wpAny_pure (a := some dx) (wpAny_bind (wpAny_pure (wpAny_bind ?_)))
  unfold nsSet
  refine wpAny_bind (wpAny_bind (wpAny_askSetting (wpAny_pure (wpAny_bind (wpAny_mkText (wpAny_bind (wpAny_loadPart D ?_)))))))
  dsimp only
  have c : (!es.toArray.any (·.key.isStr name) && es.toArray.any (·.refKey)) = false := by
    rw [← Array.any_toList, ← Array.any_toList]
    unfold getL at hl
    split at hl
    · rename_i en he
      rw [List.any_eq_true.mpr ⟨en, List.mem_of_find?_eq_some he, List.find?_some he⟩]; rfl
    · split at hl
      · cases hl
      · rename_i z; rw [Bool.not_eq_true] at z
        show (_ && List.any es _) = false
        rw [z, Bool.and_false]
  rw [aRefKeyMayBeTheName_at, c]
  refine wpAny_updatePart D ?_
  refine wpAny_bind (wpAny_lookBehind D' (pastItsLine_dict (by rw [List.size_toArray, sizeLine_eq]; (first | assumption | exact Nat.le_of_ble_eq_true rfl | exact Nat.add_le_add_left (Nat.le_of_ble_eq_true rfl) _ | exact Nat.le_trans (by assumption) (Nat.le_of_ble_eq_true rfl) | lia | omega))) ?_)
  exact wpAny_pure (h _ (Heap.SameBut.update ..) D')

/-- what the attributes become -/
noncomputable def putV (k : Str) (d : V) : List (Str × V) → List (Str × V)
  | [] => [(k, d)]
  | (x, e) :: r => if x = k then (x, d) :: r else (x, e) :: putV k d r
theorem VRe.put {b : Heap} {k : Str} {d : V} {v : Value} {hs : Int} {tk : Tok} (r : VR w b d v) : ∀ {fs : List (Str × V)} {es : List DictEntry}, VRe w b fs es → VRe w b (putV k d fs) (putL k hs (.str k tk) v es)
  | [], [], _ => by simp only [putV, putL, VRe]; exact ⟨⟨tk, rfl⟩, r, trivial⟩
  | (x, e) :: fs, en :: es, h => by
    simp only [VRe] at h
    obtain ⟨⟨t, ht⟩, h1, h2⟩ := h
    unfold putV putL
    have hk : en.key.isStr k = decide (x = k) := by rw [ht]; rfl
    by_cases hx : x = k
    · rw [if_pos hx, if_pos (by rw [hk]; simpa using hx)]
      simp only [VRe]
      exact ⟨⟨t, ht⟩, r, h2⟩
    · rw [if_neg hx, if_neg (by rw [hk]; simpa using hx)]
      simp only [VRe]
      exact ⟨⟨t, ht⟩, h1, VRe.put r h2⟩
  | [], _ :: _, h => by simp [VRe] at h
  | _ :: _, [], h => by simp [VRe] at h
theorem VRe.length {b : Heap} : ∀ {fs : List (Str × V)} {es : List DictEntry}, VRe w b fs es → es.length = fs.length
  | [], [], _ => rfl
  | (_, _) :: _, _ :: _, h => by simp only [VRe] at h; simp [VRe.length h.2.2]
  | [], _ :: _, h => by simp [VRe] at h
  | _ :: _, [], h => by simp [VRe] at h
theorem putL_len {k : Str} {hs : Int} {u v : Value} : ∀ {es : List DictEntry}, (putL k hs u v es).length ≤ es.length + 1
  | [] => by simp [putL]
  | e :: r => by
    unfold putL
    split
    · simp
    · have := @putL_len k hs u v r; simp only [List.length_cons]; (first | assumption | exact Nat.le_of_ble_eq_true rfl | exact Nat.add_le_add_left (Nat.le_of_ble_eq_true rfl) _ | exact Nat.le_trans (by assumption) (Nat.le_of_ble_eq_true rfl) | lia | omega)

/-- what a class gives for writing -/
structure ClsSet (K : Frag) (C : Addr) : Prop where
  sa : findIn K (.ref C) "__setattr__" = some (some (.builtin "object.__setattr__"))
  po : plainOver K C = true
  hd : hasDictIn K C = true

/-- o.name = e, o in hand -/
theorem S1.setAttr {K : Frag} {o value : Expr} {name : Str} {pos' pos : Pos} {C : Addr} (X : K.In H) (hC : ClsSet K C) (ht : takerIn K C name = some none)
    (v : Eg w H n pk env value ρ own fun d own₁ => ∃ x dx fs l r, Ev w H n env ρ own₁ o (.raw (.ref x)) (l ++ (dx, .attrs x C fs) :: r) ∧ fs.length ≤ 800 ∧ N ρ (l ++ (dx, .attrs x C (putV name d fs)) :: r))
    (hs : swapsWith value (some (.Attribute o name pos')) pos.line env = pure false := by rfl) : S1 w H n pk env (.Assign [.Attribute o name pos'] value pos) ρ own N R := fun A o₀ b₀ s₀ Z b s rm S => by
  refine plainObj_wpAny_Assign_Attribute (wpAny_mono (v A o₀ b₀ s₀ Z b s rm S) (fun u s₁ hh => ?_) fun _ _ f => f) hs
  obtain ⟨b₁, d, own₁, ⟨x, dx, fs, l, r, xo, hsz, h⟩, S₁, r₁, l₁⟩ := hh
  refine wpAny_mono (xo.run rm S₁.loc) (fun ov s₂ hh => ?_) fun _ _ f => f
  obtain ⟨b₂, st₂, L₂, r₂⟩ := hh
  cases r₂
  have S₂ := S₁.step st₂ L₂ xo.1
  obtain ⟨hx, es, m, hq, hv, hl⟩ := L₂.ow (dx, .attrs x C fs) (List.mem_append_right _ (.head _))
  have X₂ : K.In s₂.heap := X.keeps (L₂.base.trans L₂.sub)
  have I : InstAt s₂.heap x (instObj C dx) C (some (dictOf es m)) := ⟨L₂.sub _ _ hx, rfl, rfl, hq⟩
  have hg : (getL name es).isSome = true := by
    cases e : lookV fs name with
    | none => rw [hv.miss e]; rfl
    | some d' => obtain ⟨v', h1, _⟩ := hv.find e; rw [h1]; rfl
  have hlen := hv.length
  refine set_plain X₂ I hC.sa (osaD (s := { s₂ with toks := s₂.toks + 1 }) X₂ I hq hC.po ht hC.hd hg (Nat.le_trans putL_len (by rw [hlen]; (first | assumption | exact Nat.le_of_ble_eq_true rfl | exact Nat.add_le_add_left (Nat.le_of_ble_eq_true rfl) _ | exact Nat.le_trans (by assumption) (Nat.le_of_ble_eq_true rfl) | lia | omega))) fun h' hs' hq' => ?_)
  refine ⟨b₂, ρ, _, h, S₂.change (k := s₂.toks + 1 + 1) hs' ⟨hx, _, _, hq', hv.put (r₁.mono st₂.grow), Nat.le_trans putL_len (by rw [hlen]; (first | assumption | exact Nat.le_of_ble_eq_true rfl | exact Nat.add_le_add_left (Nat.le_of_ble_eq_true rfl) _ | exact Nat.le_trans (by assumption) (Nat.le_of_ble_eq_true rfl) | lia | omega))⟩⟩

/-- e, for what it does -/
theorem S1.expr {e : Expr} {pos : Pos} (x : Eg w H n pk env e ρ own fun d own' => N ρ own') (hi : interactive env = false := by rfl) (hs : swapsWith e none pos.line env = pure false := by rfl) : S1 w H n pk env (.Expr e pos) ρ own N R := fun A o₀ b₀ s₀ Z b s rm S =>
  wpAny_Expr_any (wpAny_mono (x A o₀ b₀ s₀ Z b s rm S) (fun v s' ⟨b', d, own', h, S', r, l⟩ => ⟨b', ρ, own', h, S'⟩) fun _ _ f => f) hi hs

/-- what a call of f may do, and may make -/
noncomputable def Fr' (w : World) (H : Heap) (n : Nat) (f : Value) (own : Own) (ds : List V) (G : V → Own → Prop) : Prop :=
  ∀ A b s us, Rm n A → Bas w H b s.heap own → VRs w b ds us →
    wpAny (Md w) A (call f us) (fun v s' => ∃ b' d own', G d own' ∧ own'.map (·.1) = own.map (·.1) ∧ Step own b s b' s' ∧ Bas w H b' s'.heap own' ∧ VR w b' d v) NoE s
theorem Fr'.le {f : Value} {ds : List V} {G : V → Own → Prop} {k : Nat} (x : Fr' w H k f own ds G) (h : k ≤ n) : Fr' w H n f own ds G := fun A b s us r => x A b s us (r.le h)
/-- f(e, ..) -/
theorem Eg.call {func : Expr} {args : List Expr} {pos : Pos} {f : Value} {ds : List V} {r : Own} {G : V → Own → Prop} (x : Ev w H n env ρ own func (.raw f) (o₁ ++ r)) (y : Es w H n env ρ (o₁ ++ r) args ds (o₂ ++ r)) (K : Kind H f) (h : Fr' w H n f o₂ ds fun d o₃ => G d (o₃ ++ r))
    (hp : ∀ pos, (backTo pos (starEach args env)).any (·.1) = false := by intro _; rfl)
    (he : eval (.Call func args [] pos) env = (do callWith pos (← eval func env) [] (backTo pos (starEach args env)) (backToKw pos (keywordEach [] env))) := by rfl) : Eg w H n pk env (.Call func args [] pos) ρ own G := fun A o₀ b₀ s₀ Z b s rm S =>
  Call_ (wpAny_mono (x.run rm S.loc) (fun u s₁ ⟨b₁, st₁, L₁, r₁⟩ => by
    cases r₁
    have S₁ := S.step st₁ L₁ x.1
    exact wp_callWith K (hp _) (wpAny_mono (y.2 A b₁ s₁ pos rm L₁) (fun us s₂ ⟨b₂, st₂, L₂, r₂⟩ => ⟨L₂.base.trans L₂.sub, wpAny_mono (h A b₂ s₂ us rm L₂.bas.left r₂) (fun v s₃ ⟨b₃, d, o₃, hG, hk, st₃, B₃, rv⟩ =>
      ⟨b₃, d, o₃ ++ r, hG, (S₁.step st₂ L₂ y.1).step st₃.wide (L₂.after st₃ B₃ hk) (keys_app hk), rv, (st₁.grow.trans st₂.grow).trans st₃.grow⟩) fun _ _ f => f⟩) fun _ _ f => f)) fun _ _ f => f) he
/-- o.name(e, ..): a method of the class -/
theorem Eg.meth {K : Frag} {o : Expr} {args : List Expr} {name : Str} {apos pos : Pos} {a : V} {C f : Addr} {fs : List (Str × V)} {ds : List V} {r : Own} {ob : Obj} {fd : FuncData} {G : V → Own → Prop} (X : K.In H) (x : Ev w H n env ρ own o a (o₁ ++ r)) (hi : AsI (o₁ ++ r) a C fs) (hC : ClsOk K C)
    (hf : findIn K (.ref C) name = some (some (.ref f))) (hk : K.lookup f = some ob) (hkc : ob.cls = .type "function") (hkd : ob.data = .func fd) (hl : lookV fs name = none)
    (y : Es w H n env ρ (o₁ ++ r) args ds (o₂ ++ r)) (h : Fr' w H n (.ref f) o₂ (a :: ds) fun d o₃ => G d (o₃ ++ r))
    (hp : ∀ pos, (backTo pos (starEach args env)).any (·.1) = false := by intro _; rfl)
    (he : ∃ pl, eval (.Call (.Attribute o name apos) args [] pos) env = (do
      let ov ← eval o env
      standAt apos.atName
      let (f, first) ← holding [ov] (getMethod ov name pl)
      callWith pos f first (backTo pos (starEach args env)) (backToKw pos (keywordEach [] env))) := by exact ⟨_, rfl⟩) : Eg w H n pk env (.Call (.Attribute o name apos) args [] pos) ρ own G := fun A o₀ b₀ s₀ Z b s rm S => by
  obtain ⟨pl, he⟩ := he
  refine methodCall_KW (pl := pl) (wpAny_mono (x.run rm S.loc) (fun u s₁ ⟨b₁, st₁, L₁, r₁⟩ => ?_) fun _ _ f => f) he
  obtain ⟨x', dx, es, m, rfl, I, hv⟩ := seeI L₁.bas r₁ hi
  have S₁ := S.step st₁ L₁ x.1
  have hm := hv.miss hl
  refine method_fn (X.keeps (L₁.base.trans L₁.sub)) I hC.ga hC.gt hf (by show (K.lookup f).map (·.cls) = _; rw [hk]; exact congrArg some hkc) (by show (lookIn name (dictOf es m)).map _ = _; rw [lookIn_dict, hm]; rfl) ?_
  refine wp_callWith (.fn (X _ _ hk) hkd) (hp _) (wpAny_mono (y.2 A b₁ s₁ pos rm L₁) (fun us s₂ ⟨b₂, st₂, L₂, r₂⟩ => ⟨L₂.base.trans L₂.sub, ?_⟩) fun _ _ f => f)
  exact wpAny_mono (h A b₂ s₂ (.ref x' :: us) rm L₂.bas.left (by simp only [VRs]; exact ⟨r₁.mono st₂.grow, r₂⟩)) (fun v s₃ ⟨b₃, d, o₃, hG, hk, st₃, B₃, rv⟩ =>
    ⟨b₃, d, o₃ ++ r, hG, (S₁.step st₂ L₂ y.1).step st₃.wide (L₂.after st₃ B₃ hk) (keys_app hk), rv, (st₁.grow.trans st₂.grow).trans st₃.grow⟩) fun _ _ f => f

/-- the same, of the code -/
noncomputable def Fc (w : World) (H : Heap) (n : Nat) (f : Value) (own : Own) (ds : List V) (G : V → Own → Prop) : Prop :=
  ∀ A b s us, Rm n A → Bas w H b s.heap own → VRs w b ds us →
    codeAny (Md w) A (.call f ⟨us, []⟩) (fun r s' => match r with | .ok (.ret v) => ∃ b' d own', G d own' ∧ own'.map (·.1) = own.map (·.1) ∧ Step own b s b' s' ∧ Bas w H b' s'.heap own' ∧ VR w b' d v | _ => False) s
theorem Fr'.of {f : Value} {ds : List V} {G : V → Own → Prop} (x : Fc w H n f own ds G) : Fr' w H n f own ds G := fun A b s us rm B r =>
  wpAny_call (codeAny_mono (x A b s us rm B r) fun q s' h => by
    rcases q with e | (v | _ | _ | _) <;> first | exact h | exact h.elim)
/-- a def, entered: with what it may do -/
theorem Fc.body {a : Addr} {fd : FuncData} {body : List Stmt} {ps : List Str} {ds : List V} {G : V → Own → Prop} {mg mb : Str → Option Value} (Gv : Gl H mg mb) (Fk : FnOk H a fd body ps) (hl : ps.length = ds.length)
    (h : ∀ L, EnvOk (callEnvC fd L a) → Sx w H n (own.map (·.1)) (callEnvC fd L a) body (argsρ ps ds) own (fun _ o => ∃ own₁ r, o = own₁ ++ r ∧ own₁.map (·.1) = own.map (·.1) ∧ G (.raw .none) own₁) (fun d' o => ∃ own₁ r, o = own₁ ++ r ∧ own₁.map (·.1) = own.map (·.1) ∧ G d' own₁)) : Fc w H (n + 1) (.ref a) own ds G := by
  intro A b s us rm B hr
  obtain ⟨o, ho, hd⟩ := Fk.at_
  have kH : Le H s.heap := B.base.trans B.sub
  have hus : us.length = ps.length := by rw [hr.length, hl]
  refine codeAny_call_cells rm.depth (kH _ _ ho) hd (Gv.lim.keeps kH) (Fk.code.keeps kH) Fk.body (Fk.bind us hus) Fk.clo (fun x hx => ?_) (fun s₁ x => ?_) Fk.co Fk.gen Fk.kind
  · obtain ⟨i, hi⟩ := List.mem_iff_getElem?.mp hx
    have hm : x.1 ∈ ps := (List.of_mem_zip (a := x.1) (b := x.2) hx).1
    rcases Fk.kinds _ hm with h1 | h1
    · exact .inl h1
    · exact .inr ⟨h1.1, h1.2 _⟩
  · have hnd : ((ps.zip us).map (·.1)).Nodup := by
      have : (ps.zip us).map (·.1) = ps := by
        rw [List.map_fst_zip]; (first | assumption | exact Nat.le_of_ble_eq_true rfl | exact Nat.add_le_add_left (Nat.le_of_ble_eq_true rfl) _ | exact Nat.le_trans (by assumption) (Nat.le_of_ble_eq_true rfl) | lia | omega)
      rw [this]; exact Fk.par
    have ok : EnvOk (callEnvC fd s.heap.objs.size a) := ⟨Fk.kind, Fk.gl, Fk.bl⟩
    have kx : Le s.heap s₁.heap := x.toInCall.keep
    have hL : s.heap.get? (callEnvC fd s.heap.objs.size a).locals = none := get_size_none _
    have hC : ∀ nm c, (callEnvC fd s.heap.objs.size a).cells.lookup nm = some c → s.heap.get? c = none := fun nm c hc => by
      cases e : s.heap.get? c with
      | none => rfl
      | some q => exact absurd (Heap.lt_size e) (Nat.not_lt.mpr (Nat.le_of_lt (x.above nm c (mem_of_lookup hc))))
    have hP : ∀ c, Priv (callEnvC fd s.heap.objs.size a) c → s.heap.get? c = none := fun c p => by
      rcases p with rfl | ⟨nm, hn⟩
      · exact hL
      · exact hC nm c hn
    have hPb : ∀ c, Priv (callEnvC fd s.heap.objs.size a) c → b.get? c = none := fun c p => by
      cases e : b.get? c with
      | none => rfl
      | some q => have := hP c p; rw [B.sub _ _ e] at this; cases this
    have S : Sta w H (callEnvC fd s.heap.objs.size a) (own.map (·.1)) own b s (only s.heap fun _ => false) b s₁ (argsρ ps ds) own := by
      obtain ⟨h', tk, e⟩ := x.toInCall.same
      refine ⟨rfl, ⟨⟨h', tk, e⟩, fun c q _ e => kx _ _ e, fun c q e => ⟨q, kx _ _ e⟩, Le.refl _, fun _ _ e => .inl e⟩,
        ⟨ok, B.base, B.sub.trans kx, ⟨_, _, ⟨x.toInCall.ns, x.cell, x.apart, fun nm c hc => Nat.ne_of_lt (x.above nm c (mem_of_lookup hc))⟩, fun y e hy => ?_⟩, hPb, fun p hp => (B.ow p hp).keep (Le.refl _) fun q e => kx _ _ e, B.ownb, fun p hp q => ?_, B.nodup⟩, hP, fun p hp => .inl (List.mem_map_of_mem hp), fun a q e => by simp [only_get] at e, fun a q e => by simp [only_get] at e, fun a ha => by obtain ⟨p, hp, rfl⟩ := List.mem_map.mp ha; exact (B.ow p hp).live⟩
      · obtain ⟨v, h1, h2⟩ := zip_lookup hr hy
        refine ⟨v, ?_, h2⟩
        have hm : y ∈ ps := (List.of_mem_zip h1).1
        unfold nameVal
        rcases Fk.kinds y hm with hk | hk
        · have hk' : (callEnvC fd s.heap.objs.size a).kindOf y = some .local := hk
          rw [if_pos hk']; exact bindL_here h1 hnd hk'
        · have hk' : (callEnvC fd s.heap.objs.size a).kindOf y = some .cell := hk.1
          have hnl : (callEnvC fd s.heap.objs.size a).kindOf y ≠ some .local := by rw [hk']; decide
          have hc : ((callEnvC fd s.heap.objs.size a).cells.lookup y).isSome = true := hk.2 _
          rw [if_neg hnl, if_pos hk', if_pos hc]; exact bindC_here h1 hnd hnl
      · obtain ⟨z, hz⟩ := (B.ow p hp).live
        have := hP _ q; rw [hz] at this; cases this
    refine wpAny_mono (h _ ok (A.deeper (callEnvC fd s.heap.objs.size a)) own b s (only s.heap fun _ => false) b s₁ (rm.deeper _) S) (fun f s' p => ?_) fun _ _ z => z.elim
    have fin : ∀ {b' : Heap} {ρ' : Names} {o' : Own} {d' : V} {v : Value}, (∃ own₁ r, o' = own₁ ++ r ∧ own₁.map (·.1) = own.map (·.1) ∧ G d' own₁) → Sta w H (callEnvC fd s.heap.objs.size a) (own.map (·.1)) own b s (only s.heap fun _ => false) b' s' ρ' o' → VR w b' d' v → ∃ b' d own', G d own' ∧ own'.map (·.1) = own.map (·.1) ∧ Step own b s b' s' ∧ Bas w H b' s'.heap own' ∧ VR w b' d v := by
      rintro b' ρ' o' d' v ⟨own₁, r, rfl, hk, hG⟩ S' rv
      exact ⟨b', d', own₁, hG, hk, S'.st, S'.loc.bas.left, rv⟩
    cases f with
    | next => obtain ⟨b', ρ', o', hd, S'⟩ := p; exact fin hd S' rfl
    | ret v => obtain ⟨b', ρ', o', d', hd, S', rv⟩ := p; exact fin hd S' rv
    | brk => exact p.elim
    | cont => exact p.elim
end
end Mine
end
section
open PySem PySem.W PyProof.Rows PySem.MeetsSeq PySem.SeqAt
namespace Mine

section
variable {w : World} {H Z : Heap} {n : Nat} {pk : List Addr} {env : Env} {ρ ρc : Names} {o₀ o₁ o₂ o₃ own own₁ own₂ F : Own} {N : Names → Own → Prop} {R : V → Own → Prop} {sts : List Stmt} {st : Stmt}

theorem Rm.type {A : Around} {C : Addr} {us : List Value} {kw : List (Str × Value)} (r : Rm (n + 1) A) : Rm n (A.under (.builtin "type.__call__" ⟨.ref C :: us, kw⟩)) := by
  refine ⟨r.hd, ?_, ?_⟩
  · have := r.dp
    show A.depth + (Code.builtin "type.__call__" ⟨.ref C :: us, kw⟩).weight + n < _
    have e : (Code.builtin "type.__call__" ⟨.ref C :: us, kw⟩).weight = 1 := by rfl
    (first | assumption | exact Nat.le_of_ble_eq_true rfl | exact Nat.add_le_add_left (Nat.le_of_ble_eq_true rfl) _ | exact Nat.le_trans (by assumption) (Nat.le_of_ble_eq_true rfl) | lia | omega)
  · have := r.un
    show A.units + (Code.builtin "type.__call__" ⟨.ref C :: us, kw⟩).cUnits + 16 * n + 16 < _
    have e : (Code.builtin "type.__call__" ⟨.ref C :: us, kw⟩).cUnits = 1 := by rfl
    (first | assumption | exact Nat.le_of_ble_eq_true rfl | exact Nat.add_le_add_left (Nat.le_of_ble_eq_true rfl) _ | exact Nat.le_trans (by assumption) (Nat.le_of_ble_eq_true rfl) | lia | omega)

theorem Bas.freeze {b h : Heap} {a : Addr} {o : O} (B : Bas w H b h ((a, o) :: own)) : Bas w H (plusH b h a) h own := by
  have g : Le b (plusH b h a) := le_plusH B.sub
  have hnd := B.nodup
  simp only [List.map_cons, List.nodup_cons] at hnd
  refine ⟨B.base.trans g, fun c q e => (plusH_some.mp e).2, fun p hp => (B.ow p (.tail _ hp)).keep g fun _ e => e, fun p hp => ?_, hnd.2⟩
  cases e : (plusH b h a).get? p.1 with
  | none => rfl
  | some q =>
    obtain ⟨h1 | h1, _⟩ := plusH_some.mp e
    · rw [B.ownb p (.tail _ hp)] at h1; cases h1
    · exact absurd (h1 ▸ List.mem_map_of_mem hp) hnd.1

/-- C(e, ..): an instance, laid down for good -/
theorem Fc.new {K : Frag} {C fI : Addr} {ds : List V} {G : V → Own → Prop} (X : K.In H) (hm : makesIn K C = true) (hi : findIn K (.ref C) "__init__" = some (some (.ref fI))) (hf : typeIn K (.ref fI) = some (.type "function"))
    (h : ∀ x dx, Fc w H n (.ref fI) ((dx, .attrs x C []) :: own) (.raw (.ref x) :: ds) fun d o => d = .raw .none ∧ ∃ fs own', o = (dx, .attrs x C fs) :: own' ∧ G (.ins C fs) own') : Fc w H (n + 1) (.ref C) own ds G := fun A b s us rm B hr => by
  obtain ⟨hh, g, d, t, os⟩ := s
  have Xs : K.In hh := X.keeps (B.base.trans B.sub)
  generalize hh2 : (hh.push emptyDict).push (instObj C hh.objs.size) = h2
  have n1 : (hh.push emptyDict).objs.size = hh.objs.size + 1 := Heap.size_push ..
  have old : ∀ a o, hh.get? a = some o → h2.get? a = some o := fun a o e => hh2 ▸ Heap.get?_push_of_some _ (Heap.get?_push_of_some _ e)
  have hdx : h2.get? hh.objs.size = some emptyDict := hh2 ▸ Heap.get?_push_of_some _ (Heap.get?_push_size _ rfl)
  have hx : h2.get? (hh.objs.size + 1) = some (instObj C hh.objs.size) := by rw [← hh2, ← n1]; exact Heap.get?_push_size _ rfl
  have f0 : hh.get? hh.objs.size = none := get_size_none _
  have f1 : hh.get? (hh.objs.size + 1) = none := get_ge_none (Nat.le_succ _)
  obtain ⟨b₁, hb₁⟩ : ∃ b₁, b₁ = only h2 fun a => (b.get? a).isSome || a == hh.objs.size + 1 := ⟨_, rfl⟩
  have bs : ∀ a o, b₁.get? a = some o ↔ ((∃ q, b.get? a = some q) ∨ a = hh.objs.size + 1) ∧ h2.get? a = some o := fun a o => by
    rw [hb₁, only_some]; simp [Option.isSome_iff_exists]
  have le1 : Le b b₁ := fun a o e => (bs a o).mpr ⟨.inl ⟨o, e⟩, old a o (B.sub a o e)⟩
  have none1 : ∀ a, b.get? a = none → a ≠ hh.objs.size + 1 → b₁.get? a = none := fun a h1 h2 => by
    cases e : b₁.get? a with
    | none => rfl
    | some o => rcases ((bs a o).mp e).1 with ⟨q, hq⟩ | h
                · rw [h1] at hq; cases hq
                · exact absurd h h2
  have ownl : ∀ p ∈ own, ∃ q, hh.get? p.1 = some q := fun p hp => (B.ow p hp).live
  have B₁ : Bas w H b₁ h2 ((hh.objs.size, .attrs (hh.objs.size + 1) C []) :: own) := by
    refine ⟨B.base.trans le1, fun a o e => ((bs a o).mp e).2, fun p hp => ?_, fun p hp => ?_, ?_⟩
    · rcases List.mem_cons.mp hp with rfl | hp
      · exact ⟨(bs _ _).mpr ⟨.inr rfl, hx⟩, [], _, hdx, by simp [VRe], by simp⟩
      · exact (B.ow p hp).keep le1 fun q e => old _ q e
    · rcases List.mem_cons.mp hp with rfl | hp
      · refine none1 _ ?_ (Nat.ne_of_lt (Nat.lt_succ_self _))
        cases e : b.get? hh.objs.size with
        | none => rfl
        | some q => have := B.sub _ _ e; rw [f0] at this; cases this
      · refine none1 _ (B.ownb p hp) fun e => ?_
        obtain ⟨q, hq⟩ := ownl p hp
        rw [e, f1] at hq; cases hq
    · rw [List.map_cons, List.nodup_cons]
      refine ⟨fun hm => ?_, B.nodup⟩
      obtain ⟨p, hp, e⟩ := List.mem_map.mp hm
      obtain ⟨q, hq⟩ := ownl p hp
      rw [e, f0] at hq; cases hq
  refine make_core (makes_of Xs hm) (looks_findIn Xs hi) (fun self => bind_fn Xs self hf) (.inl rfl) ?_
  rw [hh2]
  refine codeAny_mono (h (hh.objs.size + 1) hh.objs.size _ b₁ ⟨h2, g, d, t, os⟩ (.ref (hh.objs.size + 1) :: us) rm.type B₁ (by simp only [VRs]; exact ⟨rfl, hr.mono le1⟩)) fun r s' q => ?_
  rcases r with e | (v | _ | _ | _) <;> first | exact q.elim | skip
  obtain ⟨b', d', o', ⟨rfl, fs, own', rfl, hG⟩, hk, st, B', rv⟩ := q
  refine ⟨rv, plusH b' s'.heap hh.objs.size, .ins C fs, own', hG, ?_, ?_, B'.freeze, frozenI B'.sub (B'.ow _ (.head _))⟩
  · simpa using hk
  · refine ⟨st.same, fun a o ha e => st.keep a o ?_ (old a o e), fun a o e => st.live a o (old a o e), (le1.trans st.grow).trans (le_plusH B'.sub), fun a o e => ?_⟩
    · rw [List.map_cons, List.mem_cons]
      rintro (rfl | h1)
      · rw [f0] at e; cases e
      · exact ha h1
    · obtain ⟨h1 | h1, h2'⟩ := plusH_some.mp e
      · obtain ⟨q, hq⟩ := Option.isSome_iff_exists.mp h1
        rcases st.fresh a q hq with h3 | h3
        · rcases ((bs a q).mp h3).1 with ⟨q', hq'⟩ | rfl
          · left
            have e1 := B'.sub _ _ (st.grow _ _ (le1 _ _ hq'))
            rw [h2'] at e1; cases e1; exact hq'
          · exact .inr f1
        · right
          cases e4 : hh.get? a with
          | none => rfl
          | some z => have := old a z e4; rw [h3] at this; cases this
      · exact .inr (h1 ▸ f0)
end
end Mine
end
section
open PySem PySem.W PyProof.Rows PySem.MeetsSeq PySem.SeqAt
namespace Mine

section
variable {w : World} {H Z : Heap} {n : Nat} {pk : List Addr} {env : Env} {ρ ρc : Names} {o₀ o₁ o₂ o₃ own own₁ own₂ F : Own} {N : Names → Own → Prop} {R : V → Own → Prop} {sts : List Stmt} {st : Stmt}

theorem lookL {b : Heap} {s : Shared} {d : V} {ds : List V} {u : Value} (B : Bas w H b s.heap own) (r : VR w b d u) (h : AsL own d ds) : ∃ a vs, u = .ref a ∧ s.heap.IsList a (List.toArray vs) ∧ VRs w b ds vs := by
  rcases h with rfl | ⟨a, rfl, hm⟩
  · simp only [VR] at r
    obtain ⟨a, vs, e, hl, hs⟩ := r
    exact ⟨a, vs, e, (hl.keeps B.sub).isList, hs⟩
  · simp only [VR] at r
    obtain ⟨vs, hl, hs⟩ := B.ow _ hm
    exact ⟨a, vs, r, hl.isList, hs⟩
theorem lookD {b : Heap} {s : Shared} {d : V} {kvs : List (Str × V)} {u : Value} (B : Bas w H b s.heap own) (r : VR w b d u) (h : AsD own d kvs) : ∃ a kv, u = .ref a ∧ (a == sysModules) = false ∧ s.heap.DictOf (SK w) a kv ∧ VRp w b kvs kv := by
  rcases h with rfl | ⟨a, rfl, hm⟩
  · simp only [VR] at r
    obtain ⟨a, kv, e, hm, hd, hs⟩ := r
    exact ⟨a, kv, e, hm, hd.keep B.sub, hs⟩
  · simp only [VR] at r
    obtain ⟨kv, h1, hd, hs⟩ := B.ow _ hm
    exact ⟨a, kv, r, h1, hd, hs⟩
theorem lookT {b : Heap} {s : Shared} {ds : List V} {u : Value} (B : Bas w H b s.heap own) (r : VR w b (.tup ds) u) : ∃ a vs, u = .ref a ∧ IsTup s.heap a (List.toArray vs) ∧ VRs w b ds vs := by
  simp only [VR] at r
  obtain ⟨a, vs, e, ht, hs⟩ := r
  exact ⟨a, vs, e, ht.keeps B.sub, hs⟩

/-- a call of one that makes only, with things in hand that it may read -/
theorem Fn.act1 {f : Value} {c d : V} (h : ∀ A b s u, Rm n A → Bas w H b s.heap own → VR w b c u → Act w A b s (call f [u]) d) : Fn w H n f own [c] d own :=
  ⟨rfl, fun A b s us r B hr => by
    cases us with
    | nil => simp [VRs] at hr
    | cons u us =>
      simp only [VRs] at hr
      cases us with
      | cons _ _ => simp [VRs] at hr
      | nil => exact wpAny_mono (h A b s u r B hr.1) (fun v s' ⟨k, rv⟩ => ⟨_, Step.pure B.sub k, B.pure k, rv⟩) fun _ _ x => x⟩

theorem Fn.lenL {d : V} {ds : List V} (h : AsL own d ds) (hz : ds.length ≤ 100000) : Fn w H n (.builtin "len") own [d] (.int ds.length) own := Fn.act1 fun A b s u rm B r => by
  obtain ⟨a, vs, rfl, hl, hs⟩ := lookL B r h
  have e := hs.length
  exact Calls.call_len_list hl (by rw [List.size_toArray, e]; (first | assumption | exact Nat.le_of_ble_eq_true rfl | exact Nat.add_le_add_left (Nat.le_of_ble_eq_true rfl) _ | exact Nat.le_trans (by assumption) (Nat.le_of_ble_eq_true rfl) | lia | omega)) ⟨Keeps.tok _, _, by rw [List.size_toArray, e]⟩
theorem Fn.lenT {ds : List V} (hz : ds.length ≤ 100000) : Fn w H n (.builtin "len") own [.tup ds] (.int ds.length) own := Fn.act1 fun A b s u rm B r => by
  obtain ⟨a, vs, rfl, hl, hs⟩ := lookT B r
  have e := hs.length
  exact PyProof.Rows.len_tuple hl (by rw [List.size_toArray, e]; (first | assumption | exact Nat.le_of_ble_eq_true rfl | exact Nat.add_le_add_left (Nat.le_of_ble_eq_true rfl) _ | exact Nat.le_trans (by assumption) (Nat.le_of_ble_eq_true rfl) | lia | omega)) ⟨Keeps.tok _, _, by rw [List.size_toArray, e]⟩
theorem Fn.lenD {d : V} {kvs : List (Str × V)} (h : AsD own d kvs) (hz : kvs.length ≤ 100000) : Fn w H n (.builtin "len") own [d] (.int kvs.length) own := Fn.act1 fun A b s u rm B r => by
  obtain ⟨a, kv, rfl, hm, hl, hs⟩ := lookD B r h
  have e := hs.length
  exact call_len_dict hm hl (by rw [e]; (first | assumption | exact Nat.le_of_ble_eq_true rfl | exact Nat.add_le_add_left (Nat.le_of_ble_eq_true rfl) _ | exact Nat.le_trans (by assumption) (Nat.le_of_ble_eq_true rfl) | lia | omega)) ⟨Keeps.tok _, _, by rw [e]⟩

theorem Fn.range {k : Int} : Fn w H n (.type "range") own [.int k] (.rng 0 k) own := Fn.act1 fun A b s u rm B r => by
  obtain ⟨t, rfl⟩ := r
  refine call_range_1 ⟨Keeps.push _ _, ?_⟩
  simp only [VR]
  exact ⟨_, _, _, _, rfl, growH_new (get_size_none _) (Heap.get?_push_size _ rfl)⟩
theorem Fn.intInt {k : Int} : Fn w H n (.type "int") own [.int k] (.int k) own := Fn.act1 fun A b s u rm B r => by
  obtain ⟨t, rfl⟩ := r
  exact call_int_int ⟨Keeps.refl, t, rfl⟩
theorem Fn.intBool {q : Bool} : Fn w H n (.type "int") own [.raw (.bool q)] (.int (if q then 1 else 0)) own := Fn.act1 fun A b s u rm B r => by
  cases r
  exact call_int_bool ⟨Keeps.tok _, _, rfl⟩
theorem Fn.tupleT {ds : List V} : Fn w H n (.type "tuple") own [.tup ds] (.tup ds) own := Fn.act1 fun A b s u rm B r => by
  obtain ⟨a, vs, rfl, hl, hs⟩ := lookT B r
  exact call_tuple_tup hl ⟨Keeps.refl, r.up B.sub Keeps.refl⟩
theorem Fn.tupleL {d : V} {ds : List V} (h : AsL own d ds) (hz : ds.length ≤ 100000) : Fn w H n (.type "tuple") own [d] (.tup ds) own := Fn.act1 fun A b s u rm B r => by
  obtain ⟨a, vs, rfl, hl, hs⟩ := lookL B r h
  have e := hs.length
  refine call_tuple_list hl (fun h' hk => ?_) (by rw [List.size_toArray, e, sizeLine_eq]; (first | assumption | exact Nat.le_of_ble_eq_true rfl | exact Nat.add_le_add_left (Nat.le_of_ble_eq_true rfl) _ | exact Nat.le_trans (by assumption) (Nat.le_of_ble_eq_true rfl) | lia | omega))
  have k' : Keeps s { s with heap := h'.push { cls := .type "tuple", data := .seq vs.toArray } } := ⟨_, _, rfl, fun b o q => Heap.get?_push_of_some _ (hk b o q)⟩
  refine ⟨k', ?_⟩
  simp only [VR]
  refine ⟨_, vs, rfl, ⟨_, growH_new ?_ (Heap.get?_push_size _ rfl), rfl, _, rfl⟩, hs.mono (le_growH B.sub (Keeps.le k'))⟩
  cases q : s.heap.get? h'.objs.size with
  | none => rfl
  | some o => exact absurd (Heap.lt_size (hk _ _ q)) (Nat.lt_irrefl _)
theorem Fn.listD {d : V} {kvs : List (Str × V)} (h : AsD own d kvs) (hz : kvs.length ≤ 100000) : Fn w H n (.type "list") own [d] (.lst (kvs.map fun p => .str p.1)) own := Fn.act1 fun A b s u rm B r => by
  obtain ⟨a, kv, rfl, hm, hl, hs⟩ := lookD B r h
  have e := hs.length
  obtain ⟨ep, hA⟩ := hl.dictAt
  refine kdl_call (kdl_dict hm) rm.hd hA (by rw [e, sizeLine_eq]; (first | assumption | exact Nat.le_of_ble_eq_true rfl | exact Nat.add_le_add_left (Nat.le_of_ble_eq_true rfl) _ | exact Nat.le_trans (by assumption) (Nat.le_of_ble_eq_true rfl) | lia | omega)) fun h' tk acc' c' hk hq hacc => ?_
  have k' : Keeps s { s with heap := h', toks := tk } := ⟨_, _, rfl, hk⟩
  refine ⟨k', ?_⟩
  simp only [VR]
  refine ⟨_, acc'.toList, rfl, ⟨_, c', growH_new (get_size_none _) hq, rfl, rfl, by rw [Array.toArray_toList]⟩, ?_⟩
  have key : ∀ (kvs : List (Str × V)) (kv : List (Str × Value)) (vs : List Value), VRp w b kvs kv → vs.length = kv.length → (∀ (j : Nat) v, vs[j]? = some v → ∃ k x, kv[j]? = some (k, x) ∧ (SK w).is k v = true) → ∀ c, VRs w c (kvs.map fun p => V.str p.1) vs := fun kvs => by
    induction kvs with
    | nil => intro kv vs hp hlen _ c; cases kv with
      | nil => have : vs = [] := List.length_eq_zero_iff.mp hlen
               subst this; simp [VRs]
      | cons _ _ => simp [VRp] at hp
    | cons p kvs ih => intro kv vs hp hlen hj c; obtain ⟨x, d⟩ := p; cases kv with
      | nil => simp [VRp] at hp
      | cons q kv =>
        obtain ⟨y, u⟩ := q
        simp only [VRp] at hp
        obtain ⟨rfl, _, hp2⟩ := hp
        cases vs with
        | nil => simp at hlen
        | cons v vs =>
          simp only [List.map_cons, VRs]
          refine ⟨?_, ih kv vs hp2 (by simpa using hlen) (fun j v' e' => by simpa using hj (j + 1) v' (by simpa using e')) c⟩
          obtain ⟨k, x', e1, e2⟩ := hj 0 v (by simp)
          simp at e1
          obtain ⟨rfl, _⟩ := e1
          obtain ⟨t, rfl⟩ := Value.isStrOf_shape e2
          exact ⟨t, rfl⟩
  exact key kvs kv acc'.toList hs (by rw [Array.length_toList]; exact hacc.1) (fun j v e' => hacc.2 j v (by rw [← Array.getElem?_toList]; exact e')) _

/- slices -/
theorem sub_slice {A : Around} {E : Value → Shared → Prop} {s : Shared} {env : Env} {pos : Pos} {value : Expr} {lower upper : Option Expr} {p : Pos} {Q : Value → Shared → Prop}
    (h : wpAny (Md w) A (eval value env) (fun o s₁ => wpAny (Md w) A (eval (.Slice lower upper none p) env) (fun i s₂ => ItemOn (Md w) A E o i Q s₂) E s₁) E s) :
    wpAny (Md w) A (eval (.Subscript value (.Slice lower upper none p) pos) env) Q E s := by
  rw [eval_Subscript]
  refine wpAny_bind (wpAny_mono h (fun o s₁ h₁ => wpAny_bind (wpAny_holding (wpAny_mono h₁ (fun i s₂ h₂ => wpAny_bind (wpAny_standAt ?_)) fun _ _ x => x)))
    fun _ _ x => x)
  obtain ⟨T, id, hl, hT, hg⟩ := h₂
  first
    | (refine wpAny_bind ?_; rw [getitemInPython_of_ne hT.not_modules]; refine wpAny_bind (wpAny_specialOf hT hl ?_))
    | refine wpAny_bind (wpAny_specialOf hT hl ?_)
  have fin : wpAny (Md w) A (operate [i, o] (getItem o i)) (fun r s₃ => wpAny (Md w) A (letTemporaryGo value o r >>= fun _ => pure r) Q E s₃) E s₂ :=
    wpAny_operating (wpAny_mono hg (fun r s₃ h₃ => wpAny_bind (wpAny_letTemporaryGo (wpAny_pure h₃))) fun _ _ x => x)
  first
    | exact wpAny_pure (wpAny_bind fin)
    | exact wpAny_bind (wpAny_pure (wpAny_bind fin))
    | exact wpAny_bind fin
theorem Ev.upto {value e : Expr} {p pos : Pos} {d : V} {ds : List V} {k : Nat} (x : Ev w H n env ρ o₀ value d o₁) (y : Ev w H n env ρ o₁ e (.int k) o₂) (h : AsL o₂ d ds) (hz : ds.length ≤ 100000) : Ev w H n env ρ o₀ (.Subscript value (.Slice none (some e) none p) pos) (.lst (ds.take k)) o₂ :=
  .mk (y.1.trans x.1) fun A b s rm L => sub_slice (wpAny_mono (x.run rm L) (fun u s₁ ⟨b₁, st₁, L₁, r₁⟩ => wpAny_Slice (evalPart_none_step (evalPart_some_step (wpAny_mono (y.run rm L₁) (fun v s₂ ⟨b₂, st₂, L₂, r₂⟩ => evalPart_none_step (by
    obtain ⟨t, rfl⟩ := r₂
    obtain ⟨a, vs, rfl, hl, hs⟩ := seeL L₂ (r₁.mono st₂.grow) h
    have e := hs.length
    have hl' : (s₂.heap.push { cls := .type "slice", data := .fields #[.none, .int (k : Int) t, .none] }).IsList a vs.toArray := let ⟨o, ho, q⟩ := hl; ⟨o, Heap.get?_push_of_some _ ho, q⟩
    refine ⟨"list", _, slot_list_getitem.lookup, hl'.typeIs, wpAny_getItem_list_slice (lo := none) (hi := some (k : Int)) (st := none) hl' (Heap.IsSliceOf.new _ _ _ _) .none (.int _ _) .none (by simp) ?_ (by rw [List.size_toArray, e, sizeLine_eq]; (first | assumption | exact Nat.le_of_ble_eq_true rfl | exact Nat.add_le_add_left (Nat.le_of_ble_eq_true rfl) _ | exact Nat.le_trans (by assumption) (Nat.le_of_ble_eq_true rfl) | lia | omega))⟩
    rw [slicePick_upto']
    have k₁ : Keeps s₂ { s₂ with heap := (s₂.heap.push { cls := .type "slice", data := .fields #[.none, .int (k : Int) t, .none] }).push { cls := .type "list", data := .seq (List.take k vs.toArray.toList).toArray } } := ⟨_, _, rfl, fun b o q => Heap.get?_push_of_some _ (Heap.get?_push_of_some _ q)⟩
    refine Pt.pre st₁ x.1 (Pt.pre st₂ y.1 (Pt.of_keeps (A := A) L₂ k₁ ?_))
    simp only [VR]
    refine ⟨_, vs.take k, rfl, ⟨_, _, growH_new ?_ (Heap.get?_push_size _ rfl), rfl, rfl, rfl⟩, (hs.take k).mono (le_growH L₂.sub (Keeps.le k₁))⟩
    exact get_ge_none (by rw [Heap.size_push]; exact Nat.le_succ _))) fun _ _ f => f)))) fun _ _ f => f)
theorem Ev.from {value e : Expr} {p pos : Pos} {d : V} {ds : List V} {k : Nat} (x : Ev w H n env ρ o₀ value d o₁) (y : Ev w H n env ρ o₁ e (.int k) o₂) (h : AsL o₂ d ds) (hz : ds.length ≤ 100000) : Ev w H n env ρ o₀ (.Subscript value (.Slice (some e) none none p) pos) (.lst (ds.drop k)) o₂ :=
  .mk (y.1.trans x.1) fun A b s rm L => sub_slice (wpAny_mono (x.run rm L) (fun u s₁ ⟨b₁, st₁, L₁, r₁⟩ => wpAny_Slice (evalPart_some_step (wpAny_mono (y.run rm L₁) (fun v s₂ ⟨b₂, st₂, L₂, r₂⟩ => evalPart_none_step (evalPart_none_step (by
    obtain ⟨t, rfl⟩ := r₂
    obtain ⟨a, vs, rfl, hl, hs⟩ := seeL L₂ (r₁.mono st₂.grow) h
    have e := hs.length
    have hl' : (s₂.heap.push { cls := .type "slice", data := .fields #[.int (k : Int) t, .none, .none] }).IsList a vs.toArray := let ⟨o, ho, q⟩ := hl; ⟨o, Heap.get?_push_of_some _ ho, q⟩
    refine ⟨"list", _, slot_list_getitem.lookup, hl'.typeIs, wpAny_getItem_list_slice (lo := some (k : Int)) (hi := none) (st := none) hl' (Heap.IsSliceOf.new _ _ _ _) (.int _ _) .none .none (by simp) ?_ (by rw [List.size_toArray, e, sizeLine_eq]; (first | assumption | exact Nat.le_of_ble_eq_true rfl | exact Nat.add_le_add_left (Nat.le_of_ble_eq_true rfl) _ | exact Nat.le_trans (by assumption) (Nat.le_of_ble_eq_true rfl) | lia | omega))⟩
    rw [slicePick_from']
    have k₁ : Keeps s₂ { s₂ with heap := (s₂.heap.push { cls := .type "slice", data := .fields #[.int (k : Int) t, .none, .none] }).push { cls := .type "list", data := .seq (List.drop k vs.toArray.toList).toArray } } := ⟨_, _, rfl, fun b o q => Heap.get?_push_of_some _ (Heap.get?_push_of_some _ q)⟩
    refine Pt.pre st₁ x.1 (Pt.pre st₂ y.1 (Pt.of_keeps (A := A) L₂ k₁ ?_))
    simp only [VR]
    refine ⟨_, vs.drop k, rfl, ⟨_, _, growH_new ?_ (Heap.get?_push_size _ rfl), rfl, rfl, rfl⟩, (hs.drop k).mono (le_growH L₂.sub (Keeps.le k₁))⟩
    exact get_ge_none (by rw [Heap.size_push]; exact Nat.le_succ _)))) fun _ _ f => f))) fun _ _ f => f)
/-- of a text -/
theorem Ev.uptoS {value e : Expr} {p pos : Pos} {x : Str} {k : Int} (v : Ev w H n env ρ o₀ value (.str x) o₁) (y : Ev w H n env ρ o₁ e (.int k) o₂) (hz : x.length ≤ 100000) : Ev w H n env ρ o₀ (.Subscript value (.Slice none (some e) none p) pos) (.str (Txt.slice x none (some k))) o₂ :=
  .mk (y.1.trans v.1) fun A b s rm L => sub_slice (wpAny_mono (v.run rm L) (fun u s₁ ⟨b₁, st₁, L₁, r₁⟩ => wpAny_Slice (evalPart_none_step (evalPart_some_step (wpAny_mono (y.run rm L₁) (fun v' s₂ ⟨b₂, st₂, L₂, r₂⟩ => evalPart_none_step (by
    obtain ⟨t, rfl⟩ := r₂
    obtain ⟨t', rfl⟩ := r₁
    refine SBH.sliceItem_ns (P := fun h => ∀ b o, s₂.heap.get? b = some o → h.get? b = some o) (fun h ob hp b o q => Heap.get?_push_of_some _ (hp b o q)) (fun _ _ q => q) (fun h' t'' k' hp => ?_) (by rw [sizeLine_eq]; (first | assumption | exact Nat.le_of_ble_eq_true rfl | exact Nat.add_le_add_left (Nat.le_of_ble_eq_true rfl) _ | exact Nat.le_trans (by assumption) (Nat.le_of_ble_eq_true rfl) | lia | omega))
    exact Pt.pre st₁ v.1 (Pt.pre st₂ y.1 (Pt.of_keeps (A := A) L₂ ⟨_, _, rfl, hp⟩ ⟨_, rfl⟩)))) fun _ _ f => f)))) fun _ _ f => f)
end
end Mine
end
section
open PySem PySem.W PyProof.Rows PySem.MeetsSeq PySem.SeqAt
set_option maxRecDepth 100000
namespace Mine

section
variable {w : World} {A : Around} {E : Value → Shared → Prop} {s : Shared}

theorem list_keys_none : typeLookup (.type "list") "keys" = pure none := am_miss_of_fast (by (first | kernel_rfl | decide +kernel))

theorem keys_miss {l : Addr} {its : Array Value} {Q : Option Value → Shared → Prop} (hl : PlainL s.heap l its) (hA : A.handled = none) (h : ∀ h' tk, Le s.heap h' → Q none { s with heap := h', toks := tk }) :
    wpAny (Md w) A (getAttr? (.ref l) "keys") Q E s := by
  obtain ⟨⟨c, dct, dat, sl⟩, k, hx, hc, hd, hdat⟩ := hl
  simp only at hc hdat hd
  subst hc hdat hd
  obtain ⟨hp, g, d, tk, os⟩ := s
  have hT : ∀ tk', (⟨hp, g, d, tk', os⟩ : Shared).TypeIs (.ref l) "list" := fun _ => ⟨_, hx, rfl⟩
  have f1 := sub_AttributeError
  have f3 := F.slot_list_getattribute.lookup
  have f4 := F.slot_list_getattribute.bind (.ref l)
  have f5 := am_list_getattr_none
  unfold getAttr? getAttrBy? getAttrBy
  repeat (any_goals (first | assumption | exact hT _ | ((with_reducible show wpAny _ _ (call (Value.builtin "list.__getattribute__") _ _) _ _ _); refine call_meets F.slot_list_getattribute (hT _) am_entry_list_getattribute (F.args_list_getattribute_2 _ _) (meets_getattribute_miss_list l its k sl "keys" _ list_keys_none (by (first | kernel_rfl | decide +kernel))) ⟨hA, fun h' tk' e hx' => ?_⟩) | ((with_reducible show wpAny _ _ (call (Value.builtin "list.__getattribute__") _ _) _ _ _); refine call_meets F.slot_list_getattribute (hT _) am_entry_list_getattribute (F.args_list_getattribute_2 _ _) (meets_getattribute_miss_list l its k sl "keys" _ list_keys_none (by (first | kernel_rfl | decide +kernel))) ⟨hx, hA, fun h' tk' e hx' => ?_⟩) | wp_step))
  obtain ⟨t', u', he⟩ := hx'.there
  show wpAny _ _ (getattributeRaised _ _ _ _ _ _ _) _ _ _
  unfold getattributeRaised
  repeat (any_goals (first | assumption | wp_step))
  exact h _ _ hx'.keeps

theorem plain_dul : plainId "dict.update.loop" = true := by (first | kernel_rfl | decide +kernel)
theorem entry_dul : entryFor table "dict.update.loop" = some Builtin.«dict.update.loop» := entryFor_of_fast (by kernel_rfl)

/-- a dict that is being filled: how it stands after i pairs -/
structure Fill (w : World) (h₀ : Heap) (D : Addr) (ps : List (Value × Value)) (Dst : Nat → Heap → Prop) (un : Nat) : Prop where
  frame : ∀ i h h', Dst i h → (∀ o, h.get? D = some o → h'.get? D = some o) → Le h₀ h' → Dst i h'
  step : ∀ i k x (s' : Shared) (A' : Around) (E : Value → Shared → Prop) (Q : Unit → Shared → Prop), ps[i]? = some (k, x) → A'.units ≤ un → Le h₀ s'.heap → Dst i s'.heap →
    (∀ h' tk, Heap.SameBut D s'.heap h' → Dst (i + 1) h' → Q () { s' with heap := h', toks := tk }) → wpAny (Md w) A' (dictSet D k x) Q E s'

theorem dict_loop {h₀ : Heap} {D Ia l : Addr} {vs : List Value} {ps : List (Value × Value)} {Dst : Nat → Heap → Prop} {un : Nat} {Rr : Result → Shared → Prop} (F : Fill w h₀ D ps Dst un) (hh : A.handled = none) (hun : A.units + 2 ≤ un) (hlI : l ≠ Ia) (hDI : D ≠ Ia) (hDl : D ≠ l) (hI0 : h₀.get? Ia = none) (hD0 : h₀.get? D = none)
    (hp : ∀ (i : Nat) v, vs[i]? = some v → ∃ a k x, v = .ref a ∧ IsTup h₀ a #[k, x] ∧ ps[i]? = some (k, x)) :
    ∀ (j i : Nat) (s : Shared), i + j = vs.length → s.heap.IsListIter Ia l i → s.heap.IsList l (List.toArray vs) → Le h₀ s.heap → Dst i s.heap →
      (∀ h' tk, (∀ b o, b ≠ D → b ≠ Ia → s.heap.get? b = some o → h'.get? b = some o) → Dst vs.length h' → Rr (.ok (.ret .none)) { s with heap := h', toks := tk }) →
      codeAny (Md w) A (.builtin "dict.update.loop" ⟨[.ref D, .ref Ia, rawInt (i : Int), .none], []⟩) Rr s
  | j, i, s, hij, hit, hl, hle, hD, hR => by
    refine codeAny_builtin entry_dul ?_
    rw [Around.under_plainId plain_dul _]
    unfold Builtin.«dict.update.loop»
    show wpAny _ _ (pyNext (.ref Ia) >>= _) _ _ s
    cases j with
    | zero =>
      have hi : i = vs.length := hij
      refine wpAny_bind (wpAny_pyNext_list_end hh hit hl (by simp [hi]) fun h' he => ?_)
      show wpAny _ _ (Builtin.Dict.addKeywords D [] >>= _) _ _ _
      refine wpAny_bind (wpAny_pure ?_)
      refine wpAny_pure ?_
      have hDst : Dst vs.length h' := hi ▸ F.frame i _ _ hD (fun o e => he D o hDI e) fun b o e => he b o (fun q => by rw [q, hI0] at e; cases e) (hle b o e)
      exact hR h' s.toks (fun b o _ hb e => he b o hb e) hDst
    | succ j =>
      have hi : i < vs.length := by (first | assumption | exact Nat.le_of_ble_eq_true rfl | exact Nat.add_le_add_left (Nat.le_of_ble_eq_true rfl) _ | exact Nat.le_trans (by assumption) (Nat.le_of_ble_eq_true rfl) | lia | omega)
      obtain ⟨a, k, x, hv, ht, hps⟩ := hp i vs[i] (by simp [hi])
      refine wpAny_bind (wpAny_pyNext_list_item hit hl (x := vs[i]) (by simp [hi]) fun h₁ hit₁ hs₁ => ?_)
      rw [hv]
      have le₁ : Le h₀ h₁ := fun b o e => hs₁.extBut b o (fun q => by rw [q, hI0] at e; cases e) (hle b o e)
      have ht₁ : IsTup h₁ a #[k, x] := ht.keeps le₁
      have hT : ∀ tk, ({ s with heap := h₁, toks := tk } : Shared).TypeIs (.ref a) "tuple" := fun _ => by obtain ⟨o, ho, hc, _⟩ := ht₁; exact ⟨o, ho, hc⟩
      have hl₁ : h₁.IsList l (List.toArray vs) := hl.extBut hs₁.extBut hlI
      have hD₁ : Dst i h₁ := F.frame i _ _ hD (fun o e => hs₁.extBut D o hDI e) le₁
      refine wpAny_bind (wpAny_holding (wpAny_bind (wpAny_tryCatch ?_)))
      unfold Builtin.Dict.pairItems
      refine wpAny_bind (wpAny_typeOf (hT s.toks) ?_)
      obtain ⟨o, ho, hc, m, hd⟩ := ht₁
      simp only [beq_self_eq_true, Bool.or_true, if_true]
      refine wpAny_bind (wpAny_seqItems ho hd ?_)
      refine wpAny_pure ?_
      dsimp only [Option.getD]
      refine wpAny_holding (F.step i k x { s with heap := h₁, toks := s.toks } A.in1 _ _ hps (by show A.units + 1 ≤ _; (first | assumption | exact Nat.le_of_ble_eq_true rfl | exact Nat.add_le_add_left (Nat.le_of_ble_eq_true rfl) _ | exact Nat.le_trans (by assumption) (Nat.le_of_ble_eq_true rfl) | lia | omega)) le₁ hD₁ fun h₂ tk hs₂ hD₂ => ?_)
      refine wpAny_pure ⟨plainId_quiet plain_dul _, ?_⟩
      have eq : rawInt ((i : Int) + 1) = rawInt ((i + 1 : Nat) : Int) := by simp
      show codeAny _ _ (.builtin "dict.update.loop" ⟨[.ref D, .ref Ia, rawInt ((i : Int) + 1), .none], []⟩) _ _
      rw [eq]
      refine dict_loop F hh hun hlI hDI hDl hI0 hD0 hp j (i + 1) _ (by (first | assumption | exact Nat.le_of_ble_eq_true rfl | exact Nat.add_le_add_left (Nat.le_of_ble_eq_true rfl) _ | exact Nat.le_trans (by assumption) (Nat.le_of_ble_eq_true rfl) | lia | omega)) ?_ (hl₁.extBut hs₂.extBut (Ne.symm hDl)) (fun b o e => hs₂.extBut b o (fun q => by rw [q, hD0] at e; cases e) (le₁ b o e)) hD₂ fun h' tk' hk hd' => ?_
      · exact hit₁.at fun o e => hs₂.extBut Ia o (Ne.symm hDI) e
      · exact hR h' tk' (fun b o hb1 hb2 e => hk b o hb1 hb2 (hs₂.extBut b o hb1 (hs₁.extBut b o hb2 e))) hd'
theorem dict_pairs {l : Addr} {vs : List Value} {ps : List (Value × Value)} {Dst : Nat → Heap → Prop} {un : Nat} {Q : Value → Shared → Prop} (hh : A.handled = none) (hun : A.units + 8 ≤ un) (hl : PlainL s.heap l (List.toArray vs))
    (Fl : Fill w s.heap s.heap.objs.size ps Dst un) (h0 : Dst 0 (s.heap.push { cls := .type "dict", data := .dict #[] }))
    (hp : ∀ (i : Nat) v, vs[i]? = some v → ∃ a k x, v = .ref a ∧ IsTup s.heap a #[k, x] ∧ ps[i]? = some (k, x))
    (hQ : ∀ h' tk, Le s.heap h' → Dst vs.length h' → Q (.ref s.heap.objs.size) { s with heap := h', toks := tk }) : wpAny (Md w) A (call (.type "dict") [.ref l]) Q E s := by
  refine callType_codes (Q₁ := fun obj s₁ => obj = .ref s.heap.objs.size ∧ s₁ = { s with heap := s.heap.push { cls := .type "dict", data := .dict #[] } }) PySem.F.kt_called_dict (PySem.F.kt_typeCall_dict_1 _) PySem.F.entry_dict_init (kt_code_dict_new _ ⟨rfl, rfl⟩) ?_
  rintro obj s₁ ⟨rfl, rfl⟩
  have hnew : (s.heap.push { cls := .type "dict", data := .dict #[] }).DictOf (SK w) s.heap.objs.size [] := Heap.DictOf.new s.heap
  have k1 : Le s.heap (s.heap.push { cls := .type "dict", data := .dict #[] }) := fun _ _ e => Heap.get?_push_of_some _ e
  have hl1 : PlainL (s.heap.push { cls := .type "dict", data := .dict #[] }) l (List.toArray vs) := hl.keeps k1
  have hlt := hl.lt
  refine ⟨hnew.typeIs, PySem.F.args_dict_init_2 _ _, ?_⟩
  unfold Builtin.«dict.__init__»
  refine wpAny_bind ?_
  unfold Builtin.Dict.selfAndRest
  refine wpAny_bind (wpAny_notOrdered_dict hnew.typeIs ?_)
  show wpAny _ _ (pure (s.heap.objs.size, [Value.ref l])) _ _ _
  refine wpAny_pure ?_
  show wpAny _ _ (Builtin.Dict.updateFrom "dict.__init__" s.heap.objs.size (.ref l) [] .none) _ _ _
  unfold Builtin.Dict.updateFrom
  refine wpAny_bind (wpAny_typeOf hl1.isList.typeIs ?_)
  rw [if_pos (by decide)]
  refine wpAny_bind (keys_miss hl1 hh fun h2 tk2 le2 => ?_)
  simp only [Option.isNone_none, if_true]
  refine wpAny_bind (wpAny_rule ?_)
  have hl2 : PlainL h2 l (List.toArray vs) := hl1.keeps le2
  have hlt2 := hl2.lt
  refine wpAny_bind (wpAny_pyIter_list hl2.isList ?_)
  have k3 : ∀ b o, h2.get? b = some o → (h2.push { cls := .type "list_iterator", data := .fields #[.ref l, rawInt 0] }).get? b = some o := fun b o e => Heap.get?_push_of_some _ e
  refine wpAny_pure ⟨plainId_quiet plain_dul _, ?_⟩
  have n2 : h2.objs.size ≠ s.heap.objs.size := by
    have hD : h2.get? s.heap.objs.size = some { cls := .type "dict", data := .dict #[] } := le2 _ _ (Heap.get?_push_size _ rfl)
    exact Nat.ne_of_gt (Heap.lt_size hD)
  have i0 : s.heap.get? h2.objs.size = none := by
    cases e : s.heap.get? h2.objs.size with
    | none => rfl
    | some o => exact absurd (Heap.lt_size (le2 _ _ (k1 _ _ e))) (Nat.lt_irrefl _)
  refine codeAny_mono (dict_loop (A := A.in1) (h₀ := s.heap) Fl hh (by show A.units + 1 + 2 ≤ un; (first | assumption | exact Nat.le_of_ble_eq_true rfl | exact Nat.add_le_add_left (Nat.le_of_ble_eq_true rfl) _ | exact Nat.le_trans (by assumption) (Nat.le_of_ble_eq_true rfl) | lia | omega)) (Nat.ne_of_lt hlt2) (Ne.symm n2) (Nat.ne_of_gt hlt) i0 (get_size_none _) hp vs.length 0 _ (by simp) ⟨_, Heap.get?_push_size _ rfl, rfl, rfl⟩ (hl2.keeps k3).isList (fun b o e => k3 b o (le2 b o (k1 b o e)))
    (Fl.frame 0 _ _ h0 (fun o e => k3 _ _ (le2 _ _ e)) fun b o e => k3 b o (le2 b o (k1 b o e)))
    (Rr := fun r s' => r = .ok (.ret .none) ∧ Q (.ref s.heap.objs.size) s') fun h' tk hk hd => ⟨rfl, hQ h' tk (fun b o e => ?_) hd⟩) fun r s' h => ?_
  · refine hk b o (fun q => ?_) (fun q => ?_) (k3 b o (le2 b o (k1 b o e)))
    · rw [q, get_size_none] at e; cases e
    · rw [q, i0] at e; cases e
  · obtain ⟨rfl, h⟩ := h
    exact ⟨rfl, h⟩
end
end Mine
end
section
open PySem PySem.W PyProof.Rows PySem.MeetsSeq PySem.SeqAt
set_option maxRecDepth 100000
namespace Mine

section
variable {w : World} {H Z : Heap} {n : Nat} {pk : List Addr} {env : Env} {ρ ρc : Names} {o₀ o₁ o₂ o₃ own own₁ own₂ F : Own} {N : Names → Own → Prop} {R : V → Own → Prop} {sts : List Stmt} {st : Stmt}

noncomputable abbrev one (k : Int) : V := .tup [.int k]
theorem one_key {b : Heap} {k : Int} {u : Value} (r : VR w b (one k) u) : ∃ a, u = .ref a ∧ (TK w).is b [k] a := by
  simp only [one, VR] at r
  obtain ⟨a, vs, rfl, ⟨o, ho, hc, m, hd⟩, hs⟩ := r
  refine ⟨a, rfl, o, vs.toArray, m, ho, hc, hd, ?_⟩
  cases vs with
  | nil => simp [VRs] at hs
  | cons v vs =>
    simp only [VRs] at hs
    obtain ⟨⟨t, rfl⟩, h2⟩ := hs
    cases vs with
    | cons _ _ => simp [VRs] at h2
    | nil => exact .cons (intKind_is _ _ _ _) .nil
theorem TK.up {b c : Heap} (k : Le b c) {x : List Int} {a : Addr} (h : (TK w).is b x a) : (TK w).is c x a := let ⟨o, i, n, e, r⟩ := h; ⟨o, i, n, k _ _ e, r⟩
theorem atKey_one {xs : List (List Int × Addr × Value)} {ks : List Int} {k : Int} : xs.map (·.1) = (ks.map fun k => [k]) → (atKey xs [k]).isSome = ks.contains k := by
  induction xs generalizing ks with
  | nil => intro h; cases ks with
    | nil => rfl
    | cons _ _ => simp at h
  | cons x xs ih => intro h; cases ks with
    | nil => simp at h
    | cons j ks =>
      simp only [List.map_cons, List.cons.injEq] at h
      have ih := ih h.2
      unfold atKey at ih ⊢
      rw [List.find?_cons, List.contains_cons]
      by_cases hk : j = k
      · subst hk; simp [h.1]
      · have e1 : decide (x.1 = [k]) = false := by rw [h.1]; simpa using hk
        have e2 : (k == j) = false := by simpa using fun e => hk e.symm
        rw [e1, e2, Bool.false_or]
        exact ih

theorem notIn_heap {A : Around} {E : Value → Shared → Prop} {s : Shared} {d a : Addr} {k : List Int} {xs : List (List Int × Addr × Value)} {Q : Value → Shared → Prop} (hu : (TK w).room A.in1) (hkey : (TK w).is s.heap k a) (hd : (d == sysModules) = false) (hm : s.heap.DictOfH (TK w) d xs)
    (h : Q (.bool (!(atKey xs k).isSome)) { s with toks := s.toks + (TK w).draws k }) : wpAny (Md w) A (compareOp .NotIn (.ref a) (.ref d)) Q E s := by
  show wpAny _ _ (do return .bool (!(← contains (.ref d) (.ref a)))) Q E s
  refine wpAny_bind ?_
  unfold contains
  try with_reducible refine wpAny_holding ?_
  refine wpAny_bind (wpAny_specialOf hm.typeIs slot_dict_contains.lookup ?_)
  show wpAny _ _ (if (some (Value.builtin "dict.__contains__") == some Value.none) = true then _ else _) _ E s
  rw [if_neg (by rw [beq_builtin_none]; exact Bool.false_ne_true)]
  refine wpAny_bind (wpAny_callSpecialUnlessNone?_slot (name := Str.ofString "__contains__") hm.typeIs slot_dict_contains
    (wpAny_call_entry slot_dict_contains hm.typeIs entry_dict_contains ?_ (args_dict_contains _ _)))
  show wpAny _ _ (dictGet d (.ref a) >>= _) _ _ s
  refine wpAny_bind (wpAny_dictGet_heap hu hkey hm ?_)
  cases hf : atKey xs k with
  | some p =>
    rw [hf] at h
    show wpAny _ _ (ret (.bool true)) _ _ _
    exact wpAny_pure ⟨_, rfl, wpAny_truthy_bool (wpAny_pure h)⟩
  | none =>
    rw [hf] at h
    show wpAny _ _ (Builtin.Dict.pendingKey? d (.ref a) >>= _) _ _ _
    exact wpAny_bind (wpAny_pendingKey_other hd (wpAny_pure ⟨_, rfl, wpAny_truthy_bool (wpAny_pure h)⟩))

theorem Rm.roomK {A : Around} (r : Rm n A) : (TK w).room A.in1 := by have := r.un; show A.units + 1 < cLine; (first | assumption | exact Nat.le_of_ble_eq_true rfl | exact Nat.add_le_add_left (Nat.le_of_ble_eq_true rfl) _ | exact Nat.le_trans (by assumption) (Nat.le_of_ble_eq_true rfl) | lia | omega)
theorem Op2.inTdc {ks : List Int} {k : Int} : Op2 w H n env ρ o₀ (compareOp .In) (one k) (.tdc ks) (.raw (.bool (ks.contains k))) := fun A b s u v rm L hu hv => by
  obtain ⟨a, rfl, hk⟩ := one_key hu
  simp only [VR] at hv
  obtain ⟨d, xs, rfl, hs, hd, hx⟩ := hv
  refine wpAny_in_heap rm.roomK (TK.up L.sub hk) hs (L.sub.dictOfH hd) ⟨Keeps.tok _, ?_⟩
  show _ = _
  rw [atKey_one hx]
theorem Op2.notInTdc {ks : List Int} {k : Int} : Op2 w H n env ρ o₀ (compareOp .NotIn) (one k) (.tdc ks) (.raw (.bool (!ks.contains k))) := fun A b s u v rm L hu hv => by
  obtain ⟨a, rfl, hk⟩ := one_key hu
  simp only [VR] at hv
  obtain ⟨d, xs, rfl, hs, hd, hx⟩ := hv
  refine notIn_heap rm.roomK (TK.up L.sub hk) hs (L.sub.dictOfH hd) ⟨Keeps.tok _, ?_⟩
  show _ = _
  rw [atKey_one hx]

/- dict([(k, d), ..]) -/
noncomputable def putAll (kvs : List (Str × V)) : List (Str × V) → List (Str × V)
  | [] => kvs
  | (k, d) :: r => putAll (storedV kvs k d) r
theorem putAll_snoc {kvs l : List (Str × V)} {k : Str} {d : V} : putAll kvs (l ++ [(k, d)]) = storedV (putAll kvs l) k d := by
  induction l generalizing kvs with
  | nil => rfl
  | cons p l ih => obtain ⟨x, e⟩ := p; exact ih
theorem storedV_len {kvs : List (Str × V)} {k : Str} {d : V} : (storedV kvs k d).length ≤ kvs.length + 1 := by
  unfold storedV; split <;> simp
theorem putAll_len {kvs l : List (Str × V)} : (putAll kvs l).length ≤ kvs.length + l.length := by
  induction l generalizing kvs with
  | nil => simp [putAll]
  | cons p l ih => obtain ⟨x, e⟩ := p; have := @ih (storedV kvs x e); have := @storedV_len kvs x e; simp only [putAll, List.length_cons]; (first | assumption | exact Nat.le_of_ble_eq_true rfl | exact Nat.add_le_add_left (Nat.le_of_ble_eq_true rfl) _ | exact Nat.le_trans (by assumption) (Nat.le_of_ble_eq_true rfl) | lia | omega)

theorem pairs_of {b : Heap} {s : Shared} (sub : Le b s.heap) : ∀ {l : List (V × V)} {vs : List Value}, VRs w b (l.map fun p => .tup [p.1, p.2]) vs → ∃ ps : List (Value × Value), ps.length = l.length ∧ (∀ (i : Nat) v, vs[i]? = some v → ∃ a k x, v = .ref a ∧ IsTup s.heap a #[k, x] ∧ ps[i]? = some (k, x)) ∧ ∀ (i : Nat) k x, ps[i]? = some (k, x) → ∃ p, l[i]? = some p ∧ VR w b p.1 k ∧ VR w b p.2 x
  | [], [], _ => ⟨[], rfl, fun i v h => by simp at h, fun i k x h => by simp at h⟩
  | p :: l, v :: vs, h => by
    simp only [List.map_cons, VRs] at h
    obtain ⟨h1, h2⟩ := h
    obtain ⟨ps, hl, hp, hq⟩ := pairs_of sub h2
    simp only [VR] at h1
    obtain ⟨a, us, rfl, ht, hs⟩ := h1
    cases us with
    | nil => simp [VRs] at hs
    | cons k us => cases us with
      | nil => simp [VRs] at hs
      | cons x us => cases us with
        | cons _ _ => simp [VRs] at hs
        | nil =>
          simp only [VRs] at hs
          refine ⟨(k, x) :: ps, by simp [hl], fun i v hv => ?_, fun i k' x' h' => ?_⟩
          · cases i with
            | zero => simp at hv; subst hv; exact ⟨a, k, x, rfl, ht.keeps sub, by simp⟩
            | succ i => simpa using hp i v (by simpa using hv)
          · cases i with
            | zero => simp at h'; obtain ⟨rfl, rfl⟩ := h'; exact ⟨p, by simp, hs.1, hs.2.1⟩
            | succ i => simpa using hq i k' x' (by simpa using h')
  | [], _ :: _, h => by simp [VRs] at h
  | _ :: _, [], h => by simp [VRs] at h

theorem Fn.dictS {l : List (Str × V)} {mg mb : Str → Option Value} (Gv : Gl H mg mb) (hz : l.length ≤ 10000) : Fn w H n (.type "dict") own [.lst (l.map fun p => .tup [.str p.1, p.2])] (.dct (putAll [] l)) own := Fn.act1 fun A b s u rm B r => by
  simp only [VR] at r
  obtain ⟨a, vs, rfl, hl, hs⟩ := r
  have hs' : VRs w b ((l.map fun p => ((V.str p.1, p.2) : V × V)).map fun p => .tup [p.1, p.2]) vs := by simpa [List.map_map, Function.comp_def] using hs
  obtain ⟨ps, hpl, hp, hq⟩ := pairs_of B.sub hs'
  have hvl : vs.length = l.length := by rw [hs.length]; simp
  have hsys := sys_ne Gv B
  refine dict_pairs (un := A.units + 8) (Dst := fun i h => ∃ kv, h.DictOf (SK w) s.heap.objs.size kv ∧ VRp w b (putAll [] (l.take i)) kv) rm.hd (Nat.le_refl _) (hl.keeps B.sub) ⟨fun i h h' ⟨kv, h1, h2⟩ k1 k2 => ⟨kv, ?_, h2⟩, fun i k x s' A' E Q hi hu hle hD hQ => ?_⟩ ⟨[], Heap.DictOf.new _, by simp [putAll, VRp]⟩ hp fun h' tk k1 ⟨kv, h1, h2⟩ => ?_
  · obtain ⟨o, es, ep, ho, q⟩ := h1; exact ⟨o, es, ep, k1 _ ho, q⟩
  · obtain ⟨kv, h1, h2⟩ := hD
    obtain ⟨p, hpi, rk, rx⟩ := hq i k x hi
    rw [List.getElem?_map] at hpi
    obtain ⟨p', hp', rfl⟩ := Option.map_eq_some_iff.mp hpi
    obtain ⟨t, rfl⟩ := rk
    have hlen := h2.length
    have := @putAll_len [] (l.take i)
    rw [List.length_take] at this
    simp only [List.length_nil] at this
    refine wpAny_dictSet_pairs (strKind_is _ _ _ _) h1 (fun h' hm' hs' => hQ h' _ hs' ⟨_, hm', ?_⟩) (by rw [hlen, sizeLine_eq]; (first | assumption | exact Nat.le_of_ble_eq_true rfl | exact Nat.add_le_add_left (Nat.le_of_ble_eq_true rfl) _ | exact Nat.le_trans (by assumption) (Nat.le_of_ble_eq_true rfl) | lia | omega))
    rw [List.take_add_one, hp']
    show VRp w b (putAll [] (l.take i ++ [p'])) _
    rw [show p' = (p'.1, p'.2) from rfl, putAll_snoc]
    exact h2.stored rx
  · have k' : Keeps s { s with heap := h', toks := tk } := ⟨_, _, rfl, k1⟩
    refine ⟨k', ?_⟩
    rw [hvl, List.take_length] at h2
    simp only [VR]
    obtain ⟨o, es, ep, ho, q⟩ := h1
    exact ⟨_, kv, rfl, hsys, ⟨o, es, ep, growH_new (get_size_none _) ho, q⟩, h2.mono (le_growH B.sub (Keeps.le k'))⟩

/-- the ints, each once -/
noncomputable def once : List Int → List Int → List Int
  | acc, [] => acc
  | acc, k :: r => once (if acc.contains k then acc else acc ++ [k]) r
theorem once_snoc {acc l : List Int} {k : Int} : once acc (l ++ [k]) = (if (once acc l).contains k then once acc l else once acc l ++ [k]) := by
  induction l generalizing acc with
  | nil => rfl
  | cons p l ih => exact ih
theorem once_len {acc l : List Int} : (once acc l).length ≤ acc.length + l.length := by
  induction l generalizing acc with
  | nil => simp [once]
  | cons p l ih =>
    have := @ih (if acc.contains p then acc else acc ++ [p])
    have e : (if acc.contains p then acc else acc ++ [p]).length ≤ acc.length + 1 := by split <;> simp
    simp only [once, List.length_cons]; (first | assumption | exact Nat.le_of_ble_eq_true rfl | exact Nat.add_le_add_left (Nat.le_of_ble_eq_true rfl) _ | exact Nat.le_trans (by assumption) (Nat.le_of_ble_eq_true rfl) | lia | omega)
theorem mem_once {acc l : List Int} {k : Int} : k ∈ once acc l ↔ k ∈ acc ∨ k ∈ l := by
  induction l generalizing acc with
  | nil => simp [once]
  | cons p l ih =>
    unfold once
    rw [ih]
    split
    · rename_i h
      have : p ∈ acc := by simpa using h
      simp only [List.mem_cons]
      constructor
      · rintro (h | h)
        · exact .inl h
        · exact .inr (.inr h)
      · rintro (h | rfl | h)
        · exact .inl h
        · exact .inl this
        · exact .inr h
    · simp only [List.mem_append, List.mem_cons, List.not_mem_nil, or_false]
      constructor
      · rintro ((h | rfl) | h)
        · exact .inl h
        · exact .inr (.inl rfl)
        · exact .inr (.inr h)
      · rintro (h | rfl | h)
        · exact .inl (.inl h)
        · exact .inl (.inr rfl)
        · exact .inr h

theorem Fn.dictK {l : List Int} {mg mb : Str → Option Value} (Gv : Gl H mg mb) (hz : l.length ≤ 10000) : Fn w H n (.type "dict") own [.lst (l.map fun k => .tup [one k, .raw (.bool true)])] (.tdc (once [] l)) own := Fn.act1 fun A b s u rm B r => by
  simp only [VR] at r
  obtain ⟨a, vs, rfl, hl, hs⟩ := r
  have hs' : VRs w b ((l.map fun k => ((one k, .raw (.bool true)) : V × V)).map fun p => .tup [p.1, p.2]) vs := by simpa [List.map_map, Function.comp_def] using hs
  obtain ⟨ps, hpl, hp, hq⟩ := pairs_of B.sub hs'
  have hvl : vs.length = l.length := by rw [hs.length]; simp
  have hsys := sys_ne Gv B
  refine dict_pairs (un := A.units + 8) (Dst := fun i h => ∃ xs, h.DictOfH (TK w) s.heap.objs.size xs ∧ (∀ x ∈ xs, (TK w).is b x.1 x.2.1) ∧ xs.map (·.1) = (once [] (l.take i)).map fun k => [k]) rm.hd (Nat.le_refl _) (hl.keeps B.sub) ⟨fun i h h' ⟨xs, h1, h3, h2⟩ k1 k2 => ⟨xs, ?_, h3, h2⟩, fun i k x s' A' E Q hi hu hle hD hQ => ?_⟩ ⟨[], Heap.DictOfH.new _, by simp, by simp [once]⟩ hp fun h' tk k1 ⟨xs, h1, h3, h2⟩ => ?_
  · obtain ⟨o, es, ep, ho, q1, q2, q3, q4, q5⟩ := h1
    exact ⟨o, es, ep, k1 _ ho, q1, q2, q3, fun y hy => TK.up (B.sub.trans k2) (h3 y hy), q5⟩
  · obtain ⟨xs, h1, h3, h2⟩ := hD
    obtain ⟨p, hpi, rk, rx⟩ := hq i k x hi
    rw [List.getElem?_map] at hpi
    obtain ⟨j, hj, rfl⟩ := Option.map_eq_some_iff.mp hpi
    obtain ⟨c, rfl, hc⟩ := one_key rk
    have hlen : xs.length = (once [] (l.take i)).length := by have := congrArg List.length h2; simpa using this
    have := @once_len [] (l.take i)
    rw [List.length_take] at this
    simp only [List.length_nil] at this
    have un := rm.un
    refine wpAny_dictSet_heap (knd := TK w) (by show A'.units < cLine; (first | assumption | exact Nat.le_of_ble_eq_true rfl | exact Nat.add_le_add_left (Nat.le_of_ble_eq_true rfl) _ | exact Nat.le_trans (by assumption) (Nat.le_of_ble_eq_true rfl) | lia | omega)) (TK.up (B.sub.trans hle) hc) h1 (fun h' hm' hs' => hQ h' _ hs' ⟨_, hm', ?_, ?_⟩) (by rw [hlen, sizeLine_eq]; (first | assumption | exact Nat.le_of_ble_eq_true rfl | exact Nat.add_le_add_left (Nat.le_of_ble_eq_true rfl) _ | exact Nat.le_trans (by assumption) (Nat.le_of_ble_eq_true rfl) | lia | omega))
    · intro y hy
      unfold storedH at hy
      split at hy
      · obtain ⟨z, hz, rfl⟩ := List.mem_map.mp hy
        unfold putAt
        split
        · exact h3 z hz
        · exact h3 z hz
      · rcases List.mem_append.mp hy with h | h
        · exact h3 y h
        · rw [List.mem_singleton.mp h]; exact hc
    · rw [List.take_add_one, hj]
      show _ = (once [] (l.take i ++ [j])).map _
      rw [once_snoc]
      have hat := @atKey_one xs _ j h2
      unfold storedH
      rw [hat]
      split
      · rw [keys_map_putAt, h2]
      · rw [List.map_append, h2, List.map_append]; rfl
  · have k' : Keeps s { s with heap := h', toks := tk } := ⟨_, _, rfl, k1⟩
    refine ⟨k', ?_⟩
    rw [hvl, List.take_length] at h2
    simp only [VR]
    obtain ⟨o, es, ep, ho, q1, q2, q3, q4, q5⟩ := h1
    exact ⟨_, xs, rfl, hsys, ⟨o, es, ep, growH_new (get_size_none _) ho, q1, q2, q3, fun y hy => TK.up (le_growH B.sub (Keeps.le k')) (h3 y hy), q5⟩, h2⟩
end
end Mine
end
section
open PySem PySem.W PySem.Calls PyProof.Rows PySem.MeetsSeq PySem.SeqAt
set_option maxRecDepth 100000
namespace Mine

section
variable {w : World} {H Z : Heap} {n : Nat} {pk : List Addr} {env : Env} {ρ ρc : Names} {o₀ o₁ o₂ o₃ own own₁ own₂ F : Own} {N : Names → Own → Prop} {R : V → Own → Prop} {sts : List Stmt} {st : Stmt}

/- sorted(ints) -/
noncomputable def isort (l : List Int) : List Int := l.mergeSort fun a b => decide (a ≤ b)
theorem isort_perm (l : List Int) : (isort l).Perm l := List.mergeSort_perm _ _
theorem isort_le (l : List Int) : (isort l).Pairwise (· ≤ ·) := by
  have := List.pairwise_mergeSort (le := fun a b => decide (a ≤ b)) (fun a b c h1 h2 => by simp at *; (first | assumption | exact Nat.le_of_ble_eq_true rfl | exact Nat.add_le_add_left (Nat.le_of_ble_eq_true rfl) _ | exact Nat.le_trans (by assumption) (Nat.le_of_ble_eq_true rfl) | lia | omega)) (fun a b => by simp; (first | assumption | exact Nat.le_of_ble_eq_true rfl | exact Nat.add_le_add_left (Nat.le_of_ble_eq_true rfl) _ | exact Nat.le_trans (by assumption) (Nat.le_of_ble_eq_true rfl) | lia | omega)) l
  exact this.imp fun h => by simpa using h
theorem ints_are {b : Heap} : ∀ {xs : List Int} {vs : List Value}, VRs w b (xs.map .int) vs → IntsAre vs xs
  | [], [], _ => .nil
  | x :: xs, v :: vs, h => by
    simp only [List.map_cons, VRs] at h
    obtain ⟨⟨t, rfl⟩, h2⟩ := h
    exact .cons x t (ints_are h2)
  | [], _ :: _, h => by simp [VRs] at h
  | _ :: _, [], h => by simp [VRs] at h
theorem of_ints {b : Heap} {vs : List Value} {xs : List Int} (h : IntsAre vs xs) : VRs w b (xs.map .int) vs := by
  induction h with
  | nil => simp [VRs]
  | cons n t _ ih => simp only [List.map_cons, VRs]; exact ⟨⟨t, rfl⟩, ih⟩

theorem Fn.sortedI {d : V} {xs : List Int} (h : AsL own d (xs.map .int)) (hz : xs.length < 64) : Fn w H n (.builtin "sorted") own [d] (.lst ((isort xs).map .int)) own := Fn.act1 fun A b s u rm B r => by
  obtain ⟨a, vs, rfl, hl, hs⟩ := lookL B r h
  have hI := ints_are hs
  have hlen : vs.length = xs.length := by rw [hs.length]; simp
  refine sorted_ints hl hI (by (first | assumption | exact Nat.le_of_ble_eq_true rfl | exact Nat.add_le_add_left (Nat.le_of_ble_eq_true rfl) _ | exact Nat.le_trans (by assumption) (Nat.le_of_ble_eq_true rfl) | lia | omega)) fun out ns' a1 a2 a3 => ?_
  have e : ns' = isort xs := ksm_same (a2.trans (isort_perm xs).symm) a3 (isort_le xs)
  subst e
  obtain ⟨e, he⟩ := sortedAll_at s.heap vs out
  have k' : Keeps s { s with heap := sortedAll s.heap vs out } := ⟨_, _, rfl, fun b o q => sortedAll_old q⟩
  refine ⟨k', ?_⟩
  simp only [VR]
  exact ⟨_, out.toList, rfl, ⟨_, e, growH_new (get_ge_none (Nat.le_succ _)) he, rfl, rfl, by simp⟩, of_ints a1⟩

/- a dict's keys, whatever they are -/
section
variable {A : Around} {E : Value → Shared → Prop} {s : Shared}
structure RawD (h : Heap) (d : Addr) (es : Array DictEntry) (ep : Nat) : Prop where
  at_ : ∃ o, h.get? d = some o ∧ o.ExactDict ∧ o.data = .dict es ep
theorem RawD.typeIs {d : Addr} {es ep} (x : RawD s.heap d es ep) : s.TypeIs (.ref d) "dict" := let ⟨o, ho, hc, _⟩ := x.at_; ⟨o, ho, hc.1⟩
theorem RawD.keep {h h' : Heap} {d : Addr} {es ep} (x : RawD h d es ep) (k : ∀ o, h.get? d = some o → h'.get? d = some o) : RawD h' d es ep := let ⟨o, ho, r⟩ := x.at_; ⟨o, k o ho, r⟩
theorem RawD.lt {h : Heap} {d : Addr} {es ep} (x : RawD h d es ep) : d < h.objs.size := let ⟨o, ho, _⟩ := x.at_; Heap.lt_size ho

theorem raw_iter {d : Addr} {es : Array DictEntry} {ep : Nat} {Q : Value → Shared → Prop} (hd : (d == sysModules) = false) (hm : RawD s.heap d es ep)
    (hQ : Q (.ref s.heap.objs.size) { s with heap := s.heap.push { cls := .type "dict_keyiterator", data := .fields #[.ref d, .int 0 0, .int es.size 0, .int ep 0] } }) :
    wpAny (Md w) A (pyIter (.ref d)) Q E s := by
  obtain ⟨o, ho, hc, hdat⟩ := hm.at_
  have hT := hm.typeIs
  refine wpAny_pyIter_slot hT F.slot_dict_iter (wpAny_call_entry F.slot_dict_iter hT F.entry_dict_iter ?_ (F.args_dict_iter_1 _))
  unfold Builtin.«dict.__iter__»
  refine wpAny_bind ?_
  unfold Builtin.Dict.dictSlotNone
  refine wpAny_bind (wpAny_notOrdered_dict hT ?_)
  show wpAny _ _ (pure (Value.ref d)) _ _ s
  refine wpAny_pure ?_
  show wpAny _ _ (Builtin.Dict.showsAll d >>= _) _ _ s
  unfold Builtin.Dict.showsAll
  rw [if_neg (by rw [hd]; exact Bool.false_ne_true)]
  refine wpAny_bind (wpAny_pure ?_)
  refine wpAny_bind (wpAny_dictEntries ho hdat ?_)
  refine wpAny_bind (wpAny_dictEpoch ho hdat ?_)
  refine wpAny_bind (wpAny_newObj_type (wpAny_pure ⟨_, rfl, "dict_keyiterator", _, ⟨_, Heap.get?_push_size _ rfl, rfl⟩, F.slot_dict_keyiterator_next.lookup, ?_⟩))
  simpa [rawInt] using hQ

theorem raw_item {it d : Addr} {i ep : Nat} {es : Array DictEntry} {en : DictEntry} {Q : Option Value → Shared → Prop} (hit : s.heap.IsKeyIter it d i es.size ep)
    (hm : RawD s.heap d es ep) (hx : es[i]? = some en)
    (hQ : ∀ h', h'.IsKeyIter it d (i + 1) es.size ep → Heap.SameBut it s.heap h' → Q (some en.key) { s with heap := h' }) :
    wpAny (Md w) A (pyNext (.ref it)) Q E s := by
  obtain ⟨o, ho, hc, hd⟩ := id hit
  obtain ⟨od, hod, hcd, hdd⟩ := hm.at_
  unfold pyNext
  refine wpAny_bind (wpAny_attempt (wpAny_callSpecial?_slot (name := Str.ofString "__next__") hit.typeIs F.slot_dict_keyiterator_next
    (wpAny_call_entry F.slot_dict_keyiterator_next hit.typeIs F.entry_dict_keyiterator_next ?_ (F.args_dict_keyiterator_next_1 _))))
  refine wpAny_bind (wpAny_pure ?_)
  refine wpAny_bind ?_
  refine wpAny_bind ?_
  first | refine wpAny_bind (wpAny_typeNameOfWhole_keyiter hit.typeIs (wpAny_pure ?_)) | refine wpAny_bind (wpAny_typeNameOf_keyiter hit.typeIs (wpAny_pure ?_))
  refine wpAny_bind (wpAny_fieldsOf ho hd ?_)
  have hown : Builtin.Dict_items.ownsTuple "dict_keyiterator" = false := by decide
  simp only [hown, Bool.false_eq_true, if_false]
  show wpAny _ _ (if (Value.ref d == Value.none) = true then _ else _) _ _ s
  rw [if_neg (show ¬ ((Value.ref d == Value.none) = true) from Bool.false_ne_true)]
  refine wpAny_bind (wpAny_pure ?_)
  refine wpAny_bind (wpAny_dictEntries hod hdd ?_)
  rw [if_neg (by simp)]
  refine wpAny_bind (wpAny_pure ?_)
  refine wpAny_bind (wpAny_dictEpoch hod hdd ?_)
  rw [if_neg (by simp)]
  refine wpAny_pure ?_
  have hlt' : i < es.size := (Array.getElem?_eq_some_iff.mp hx).1
  have hen : es[i] = en := (Array.getElem?_eq_some_iff.mp hx).2
  simp only [show ¬ ((i : Int) < 0) from by (first | assumption | exact Nat.le_of_ble_eq_true rfl | exact Nat.add_le_add_left (Nat.le_of_ble_eq_true rfl) _ | exact Nat.le_trans (by assumption) (Nat.le_of_ble_eq_true rfl) | lia | omega), if_false, Int.toNat_natCast, Array.getElem?_eq_getElem hlt']
  refine wpAny_bind ?_
  first | refine wpAny_bind (wpAny_typeNameOfWhole_keyiter hit.typeIs (wpAny_pure ?_)) | refine wpAny_bind (wpAny_typeNameOf_keyiter hit.typeIs (wpAny_pure ?_))
  refine wpAny_bind (wpAny_isOneOf_keyiter hit.typeIs ?_)
  show wpAny _ _ (setField (.ref it) 1 (rawInt ((i : Int) + 1)) >>= _) _ _ s
  refine wpAny_bind (wpAny_setField ho hd (by simp) ?_)
  have hit' : (s.heap.update it (Obj.mapFields (·.setIfInBounds 1 (rawInt ((i : Int) + 1))))).IsKeyIter it d (i + 1) es.size ep :=
    ⟨_, Heap.get?_update_self _ ho (Obj.isFreed_of_fields (Obj.data_mapFields hd _)), (Obj.cls_mapFields ..).trans hc, by rw [Obj.data_mapFields hd]; simp [rawInt]⟩
  refine wpAny_bind (wpAny_holding ?_)
  refine wpAny_bind (wpAny_isOneOf_keyiter (s := { s with heap := s.heap.update it (Obj.mapFields (·.setIfInBounds 1 (rawInt ((i : Int) + 1)))) }) hit'.typeIs ?_)
  show wpAny _ _ (pure es[i].key) _ _ _
  rw [hen]
  exact wpAny_pure (wpAny_pure ⟨_, rfl, wpAny_pure (hQ _ hit' (Heap.SameBut.update ..))⟩)

theorem raw_end {it d : Addr} {i ep : Nat} {es : Array DictEntry} {Q : Option Value → Shared → Prop} (hh : A.handled = none) (hit : s.heap.IsKeyIter it d i es.size ep)
    (hm : RawD s.heap d es ep) (hx : es[i]? = none)
    (hQ : ∀ h', Heap.ExtBut it s.heap h' → Q none { s with heap := h' }) : wpAny (Md w) A (pyNext (.ref it)) Q E s := by
  obtain ⟨o, ho, hc, hd⟩ := id hit
  obtain ⟨od, hod, hcd, hdd⟩ := hm.at_
  unfold pyNext
  refine wpAny_bind (wpAny_attempt (wpAny_callSpecial?_slot (name := Str.ofString "__next__") hit.typeIs F.slot_dict_keyiterator_next
    (wpAny_call_entry F.slot_dict_keyiterator_next hit.typeIs F.entry_dict_keyiterator_next ?_ (F.args_dict_keyiterator_next_1 _))))
  refine wpAny_bind (wpAny_pure ?_)
  refine wpAny_bind ?_
  refine wpAny_bind ?_
  first | refine wpAny_bind (wpAny_typeNameOfWhole_keyiter hit.typeIs (wpAny_pure ?_)) | refine wpAny_bind (wpAny_typeNameOf_keyiter hit.typeIs (wpAny_pure ?_))
  refine wpAny_bind (wpAny_fieldsOf ho hd ?_)
  have hown : Builtin.Dict_items.ownsTuple "dict_keyiterator" = false := by decide
  simp only [hown, Bool.false_eq_true, if_false]
  show wpAny _ _ (if (Value.ref d == Value.none) = true then _ else _) _ _ s
  rw [if_neg (show ¬ ((Value.ref d == Value.none) = true) from Bool.false_ne_true)]
  refine wpAny_bind (wpAny_pure ?_)
  refine wpAny_bind (wpAny_dictEntries hod hdd ?_)
  rw [if_neg (by simp)]
  refine wpAny_bind (wpAny_pure ?_)
  refine wpAny_bind (wpAny_dictEpoch hod hdd ?_)
  rw [if_neg (by simp)]
  refine wpAny_pure ?_
  have hge : es.size ≤ i := by simpa using hx
  simp only [show ¬ ((i : Int) < 0) from by (first | assumption | exact Nat.le_of_ble_eq_true rfl | exact Nat.add_le_add_left (Nat.le_of_ble_eq_true rfl) _ | exact Nat.le_trans (by assumption) (Nat.le_of_ble_eq_true rfl) | lia | omega), if_false, Int.toNat_natCast, Array.getElem?_eq_none hge]
  refine wpAny_bind ?_
  first | refine wpAny_bind (wpAny_typeNameOfWhole_keyiter hit.typeIs (wpAny_pure ?_)) | refine wpAny_bind (wpAny_typeNameOf_keyiter hit.typeIs (wpAny_pure ?_))
  show wpAny _ _ (setField (.ref it) 0 .none >>= _) _ _ s
  refine wpAny_bind (wpAny_setField ho hd (by simp) ?_)
  show wpAny _ _ (newExc (.type "StopIteration") [] >>= _) _ _ _
  refine wpAny_bind ?_
  simp only [newExc, newTuple]
  refine wpAny_bind (wpAny_newObj_type ?_ (by size_fits))
  refine wpAny_bind (m := firstArgMember _ _) (wpAny_of_eq (a := Value.none) (by first | rfl | (simp only [firstArgMember]; rfl)) ?_)
  refine wpAny_newObj_type ?_ (by size_fits)
  simp only [raiseNew]
  refine wpAny_bind (wpAny_handled ?_)
  rw [show A.in1.handled = none from hh]
  refine wpAny_bind (wpAny_pure (wpAny_throw ?_))
  refine wpAny_bind (wpAny_isInstance (T := "StopIteration") (b := true) ⟨_, Heap.get?_push_size _ rfl, rfl⟩ isSubtype_stop ?_)
  exact wpAny_pure (hQ _ (((Heap.SameBut.update ..).extBut.push _).push _))

theorem raw_walks (hh : A.handled = none) (I d : Addr) (hne : d ≠ I) (es : Array DictEntry) (ep : Nat) :
    Walks Pg w A I [I, d] [I] es.size (fun i v => ∃ en, es[i]? = some en ∧ v = en.key) (fun i h => h.IsKeyIter I d i es.size ep ∧ RawD h d es ep) where
  sub := fun b hb => by simp at hb; simp [hb]
  frame := fun _ _ _ st hk => ⟨st.1.at fun o e => hk I (by simp) o e, st.2.keep fun o e => hk d (by simp) o e⟩
  item := fun i s Q E hi st hQ => by
    refine raw_item st.1 st.2 (en := es[i]) (by simp [hi]) fun h' hit' hs' => ?_
    exact hQ _ h' s.toks ⟨_, by simp [hi], rfl⟩ ⟨hit', st.2.keep fun o e => hs'.extBut d o hne e⟩ fun b o hb e => hs'.extBut b o (fun h => hb (by simp [h])) e
  done := fun s Q E st hQ => raw_end hh st.1 st.2 (by simp) fun h' he' => hQ h' s.toks fun b o hb e => he' b o (fun h => hb (by simp [h])) e
  self := fun _ _ _ _ st hQ => wpAny_pyIter_keyiter st.1 hQ

theorem raw_src {d : Addr} {es : Array DictEntry} {ep : Nat} (lo : (d == sysModules) = false) : KdlSrc Pg w "dict" d d es.size (fun i v => ∃ en, es[i]? = some en ∧ v = en.key) (fun h => RawD h d es ep) where
  type := fun _ hm => hm.typeIs
  there := fun _ hm => ⟨hm.lt, hm.lt⟩
  keep := fun _ _ hm hk => hm.keep fun o e => hk d (.inl rfl) o e
  notList := by decide
  notTuple := by decide
  hint := fun _ _ _ _ hm hq => kdl_hint_dict hm.typeIs hq
  iter := fun _ _ hh hm => ⟨_, _, (fun _ _ hq => raw_iter lo hm hq), raw_walks hh _ d (Nat.ne_of_lt hm.lt) es ep, ⟨⟨_, Heap.get?_push_size _ rfl, rfl, rfl⟩, hm.keep fun o e => Heap.get?_push_of_some _ e⟩⟩

theorem raw_collect {d : Addr} {es : Array DictEntry} {ep : Nat} {Q : List Value → Shared → Prop} (lo : (d == sysModules) = false) (hh : A.handled = none) (hm : RawD s.heap d es ep) (hn : es.size ≤ 1000)
    (hQ : ∀ h' tk acc, Le s.heap h' → ItemsOf (fun i v => ∃ en, es[i]? = some en ∧ v = en.key) acc es.size → Q acc.toList { s with heap := h', toks := tk }) : wpAny (Md w) A (collect (.ref d)) Q E s := by
  have K := raw_src (w := w) (es := es) (ep := ep) lo
  have hlt := hm.lt
  obtain ⟨Rr, hRr⟩ : ∃ Rr : Result → Shared → Prop, Rr = fun r s' => r = .ok (.ret (.ref s.heap.objs.size)) ∧ ∃ h' tk acc' c', s' = { s with heap := h', toks := tk } ∧ Le s.heap h' ∧ h'.get? s.heap.objs.size = some { cls := .type "list", dict := none, data := .seq acc' c', slots := #[] } ∧ ItemsOf (fun i v => ∃ en, es[i]? = some en ∧ v = en.key) acc' es.size := ⟨_, rfl⟩
  have main : codeAny (Md w) A (.builtin "proto.collect" ⟨[.ref d], []⟩) Rr s := by
    refine codeAny_builtin F.entry_proto_collect ?_
    rw [Around.under_plainId F.plain_proto_collect _]
    show wpAny _ A.in1 (newList [] >>= fun l => again (.builtin "list.__iadd__" ⟨[l, .ref d], []⟩)) _ _ s
    refine wpAny_bind (wpAny_newObj_type ?_)
    refine wpAny_pure ⟨plainId_quiet F.plain_list_iadd _, codeAny_builtin F.entry_list_iadd ?_⟩
    rw [Around.under_plainId F.plain_list_iadd _]
    have hS₁ : (s.heap.push { cls := .type "list", data := .seq ([] : List Value).toArray }).get? s.heap.objs.size = some { cls := .type "list", data := .seq ([] : List Value).toArray } := Heap.get?_push_size _ rfl
    show wpAny _ A.in1 (Builtin.List.listExtendWith (.ref s.heap.objs.size) (.ref d) (.ref s.heap.objs.size)) _ _ _
    refine kdl_extend (R := Rr) (s := { s with heap := s.heap.push { cls := .type "list", data := .seq ([] : List Value).toArray } }) K hh (hm.keep fun o e => Heap.get?_push_of_some _ e) s.heap.objs.size (Nat.ne_of_gt hlt) (Nat.ne_of_gt hlt) _ 0 hS₁
      (fun h' tk acc' c' hk hS' hacc => by rw [hRr]; exact ⟨rfl, h', tk, acc', c', rfl, fun b o e => hk b o (Nat.ne_of_lt (Heap.lt_size e)) (Heap.get?_push_of_some _ e), hS', hacc⟩) (by rw [sizeLine_eq]; (first | assumption | exact Nat.le_of_ble_eq_true rfl | exact Nat.add_le_add_left (Nat.le_of_ble_eq_true rfl) _ | exact Nat.le_trans (by assumption) (Nat.le_of_ble_eq_true rfl) | lia | omega))
  unfold collect
  refine wpAny_bind (wpAny_runValue (codeAny_mono main fun r s' h => ?_))
  rw [hRr] at h
  obtain ⟨rfl, h', tk, acc', c', rfl, hk, hS', hacc⟩ := h
  show wpAny _ A (load s.heap.objs.size >>= _) _ _ _
  exact wpAny_bind (wpAny_load hS' (wpAny_pure (hQ h' tk acc' hk hacc)))
end
end
end Mine
end
section
open PySem PySem.W PySem.Calls PyProof.Rows PySem.MeetsSeq PySem.SeqAt
set_option maxRecDepth 100000
namespace Mine

noncomputable def evalT {α : Type} (lt : Nat → Nat → Bool) : KasT α → α
  | .ret a => a
  | .ask i j k => evalT lt (k (lt i j))
noncomputable def chkT {α : Type} (n : Nat) (p : α → Bool) : KasT α → Bool
  | .ret a => p a
  | .ask i j k => decide (i < n) && decide (j < n) && chkT n p (k true) && chkT n p (k false)
theorem chk_eval {α : Type} {n : Nat} {p : α → Bool} {lt : Nat → Nat → Bool} : ∀ {t : KasT α}, chkT n p t = true → p (evalT lt t) = true
  | .ret a, h => h
  | .ask i j k, h => by
    simp only [chkT, Bool.and_eq_true] at h
    unfold evalT
    cases lt i j
    · exact chk_eval h.2
    · exact chk_eval h.1.2
theorem kas_eval {α : Type} {n : Nat} {p : α → Bool} {lt : Nat → Nat → Bool} {cmp : Nat → Nat → (Bool → Shared → Prop) → Shared → Prop} {s : Shared} (hc : ∀ i j (C : Bool → Shared → Prop), i < n → j < n → C (lt i j) s → cmp i j C s) {Q : α → Shared → Prop} : ∀ {t : KasT α}, chkT n p t = true → Q (evalT lt t) s → t.kasWp cmp Q s
  | .ret a, _, q => q
  | .ask i j k, h, q => by
    simp only [chkT, Bool.and_eq_true, decide_eq_true_eq] at h
    refine hc i j _ h.1.1.1 h.1.1.2 ?_
    unfold evalT at q
    cases e : lt i j with
    | true => rw [e] at q; exact kas_eval hc h.1.2 q
    | false => rw [e] at q; exact kas_eval hc h.2 q

noncomputable def permOk (n : Nat) (p : Array Nat) : Bool := p.toList.isPerm (List.range n)
theorem chk2 : chkT 2 (permOk 2) (kas_sort 2) = true := by (first | kernel_rfl | decide +kernel)
theorem chk3 : chkT 3 (permOk 3) (kas_sort 3) = true := by (first | kernel_rfl | decide +kernel)
theorem chk4 : chkT 4 (permOk 4) (kas_sort 4) = true := by (first | kernel_rfl | decide +kernel)
theorem chk_all {n : Nat} (h2 : 2 ≤ n) (h4 : n ≤ 4) : chkT n (permOk n) (kas_sort n) = true := by
  have : n = 2 ∨ n = 3 ∨ n = 4 := by (first | assumption | exact Nat.le_of_ble_eq_true rfl | exact Nat.add_le_add_left (Nat.le_of_ble_eq_true rfl) _ | exact Nat.le_trans (by assumption) (Nat.le_of_ble_eq_true rfl) | lia | omega)
  rcases this with rfl | rfl | rfl
  · exact chk2
  · exact chk3
  · exact chk4

noncomputable def ltK (ks : List Int) (i j : Nat) : Bool := decide (ks.getD i 0 < ks.getD j 0)
noncomputable def sortK (ks : List Int) : List Int := if ks.length < 2 then ks else (evalT (ltK ks) (kas_sort ks.length)).toList.map fun i => ks.getD i 0
theorem range_getD (ks : List Int) : (List.range ks.length).map (fun i => ks.getD i 0) = ks := by
  apply List.ext_getElem
  · simp
  · intro i h1 h2
    simp at h1
    simp [h1]
theorem sortK_perm {ks : List Int} (h4 : ks.length ≤ 4) : (sortK ks).Perm ks := by
  unfold sortK
  split
  · exact List.Perm.refl _
  · rename_i h
    have hp := chk_eval (lt := ltK ks) (chk_all (n := ks.length) (by (first | assumption | exact Nat.le_of_ble_eq_true rfl | exact Nat.add_le_add_left (Nat.le_of_ble_eq_true rfl) _ | exact Nat.le_trans (by assumption) (Nat.le_of_ble_eq_true rfl) | lia | omega)) h4)
    have hp' := (List.isPerm_iff.mp hp).map fun i => ks.getD i 0
    rwa [range_getD] at hp'

section
variable {w : World} {H Z : Heap} {n : Nat} {own : Own} {A : Around} {E : Value → Shared → Prop} {s : Shared}

/-- values that stand for (k,) -/
inductive Ones (h : Heap) : List Value → List Int → Prop
  | nil : Ones h [] []
  | cons {a k t vs ks} : IsTup h a #[.int k t] → Ones h vs ks → Ones h (.ref a :: vs) (k :: ks)
theorem Ones.keep {h h' : Heap} (k : Le h h') {vs : List Value} {ks : List Int} (x : Ones h vs ks) : Ones h' vs ks := by
  induction x with
  | nil => exact .nil
  | cons h1 _ ih => exact .cons (h1.keeps k) ih
theorem Ones.length {h : Heap} {vs : List Value} {ks : List Int} (x : Ones h vs ks) : vs.length = ks.length := by
  induction x with
  | nil => rfl
  | cons _ _ ih => simp [ih]
theorem Ones.get {h : Heap} {vs : List Value} {ks : List Int} (x : Ones h vs ks) : ∀ {i : Nat}, i < ks.length → ∃ a t, vs.getD i .none = .ref a ∧ IsTup h a #[.int (ks.getD i 0) t] := by
  induction x with
  | nil => intro i h; simp at h
  | cons h1 _ ih =>
    intro i h
    cases i with
    | zero => exact ⟨_, _, rfl, h1⟩
    | succ i => obtain ⟨a, t, e1, e2⟩ := ih (i := i) (by simpa using h); exact ⟨a, t, by simpa using e1, by simpa using e2⟩
theorem Ones.tups {h : Heap} {vs : List Value} {ks : List Int} (x : Ones h vs ks) : ∃ fs, KatTups h vs fs ∧ IntsAre fs ks := by
  induction x with
  | nil => exact ⟨[], trivial, .nil⟩
  | @cons a k t vs ks h1 _ ih =>
    obtain ⟨fs, h2, h3⟩ := ih
    obtain ⟨o, ho, hc, m, hd⟩ := h1
    exact ⟨.int k t :: fs, ⟨⟨a, o, _, m, rfl, ho, hc, hd, by simp⟩, h2⟩, .cons k t h3⟩

theorem lt_ones {ks : List Int} {vs : List Value} {i j : Nat} {C : Bool → Shared → Prop} (x : Ones s.heap vs ks) (hi : i < ks.length) (hj : j < ks.length) (h : C (ltK ks i j) s) : kas_ask Pg w A (tuples' true) vs i j C s := by
  obtain ⟨a, t, e1, ⟨o, ho, _, m, hd⟩⟩ := x.get hi
  obtain ⟨c, u, e2, ⟨o', ho', _, m', hd'⟩⟩ := x.get hj
  unfold kas_ask
  rw [e1, e2]
  refine kat_lt ho hd ho' hd' ?_
  show KatLex Pg w A true _ C [(Value.int (ks.getD i 0) t, Value.int (ks.getD j 0) u)] 0 s
  refine kat_cons (wpAny_eqBool_int ?_)
  by_cases e : ks.getD i 0 = ks.getD j 0
  · have e' : (ks.getD i 0 == ks.getD j 0) = true := by simpa using e
    rw [e']
    refine kat_yes (kat_nil ?_)
    have : ltK ks i j = false := by unfold ltK; rw [e]; simp
    rw [this] at h
    simpa using h
  · have e' : (ks.getD i 0 == ks.getD j 0) = false := by simpa using e
    rw [e']
    refine kat_no ?_
    exact kat_lt_int h

theorem sort_ones {a : Addr} {vs : List Value} {ks : List Int} {n : Nat} {P : PySem.Fin → Shared → Prop} (ho : s.heap.get? a = some (seqObj "list" vs.toArray n)) (x : Ones s.heap vs ks) (hx : ∀ v ∈ vs, v ≠ .ref a) (h4 : ks.length ≤ 4)
    (h : ∀ out : List Value, (∀ b : Heap, Ones b vs ks → Ones b out (sortK ks)) → P (.done (.ret .none)) { s with heap := sortedHeap s.heap a vs out.toArray }) :
    wpAny (Md w) A (Builtin.«list.sort» ⟨[.ref a], []⟩) P E s := by
  have hvl := x.length
  rw [list_sort_plain]
  have ha : a < s.heap.objs.size := Heap.lt_size ho
  refine wpAny_bind (listItems_at ho rfl ?_)
  refine wpAny_bind (listUpdate_at ho rfl ?_ (by rw [List.size_toArray, sizeLine_eq]; (first | assumption | exact Nat.le_of_ble_eq_true rfl | exact Nat.add_le_add_left (Nat.le_of_ble_eq_true rfl) _ | exact Nat.le_trans (by assumption) (Nat.le_of_ble_eq_true rfl) | lia | omega)) (Nat.zero_le _))
  obtain ⟨e1, ho1⟩ : ∃ e1, (s.heap.update a (Obj.mapSeq fun _ => #[])).get? a = some (seqObj "list" #[] e1) := ⟨_, get?_update_seq ho (fun _ => #[])⟩
  refine wpAny_bind (seqEpoch_at ho1 rfl ?_)
  refine wpAny_bind (wpAny_newTuple ?_ (by show vs.length ≤ _; rw [sizeLine_eq]; (first | assumption | exact Nat.le_of_ble_eq_true rfl | exact Nat.add_le_add_left (Nat.le_of_ble_eq_true rfl) _ | exact Nat.le_trans (by assumption) (Nat.le_of_ble_eq_true rfl) | lia | omega)))
  refine wpAny_bind (wpAny_newList ?_ (Nat.zero_le _))
  refine wpAny_holding ?_
  have ho6 : (((s.heap.update a (Obj.mapSeq fun _ => #[])).push (seqObj "tuple" vs.toArray 0)).push (seqObj "list" #[] 0)).get? a = some (seqObj "list" #[] e1) := by
    rw [Heap.get?_push_ne _ _ _ (by rw [size_push', Heap.size_update]; exact Nat.ne_of_lt (Nat.lt_succ_of_lt ha)), Heap.get?_push_ne _ _ _ (by rw [Heap.size_update]; exact Nat.ne_of_lt ha)]
    exact ho1
  show wpAny (Md w) A _ P E { s with heap := ((s.heap.update a (Obj.mapSeq fun _ => #[])).push (seqObj "tuple" vs.toArray 0)).push (seqObj "list" #[] 0) }
  dsimp only
  by_cases h2 : vs.toArray.size < 2
  · rw [if_pos h2, if_pos h2]
    refine wpAny_bind (wpAny_pure ?_)
    rw [StateT.run_pure]
    refine wpAny_bind (wpAny_pure ?_)
    dsimp only
    refine wpAny_bind (seqEpoch_at ho6 rfl ?_)
    have hmap : (arrOf (SortSt.mk' general' (vs.toArray.zip vs.toArray) #[] 7 none)).map (·.2) = vs.toArray := by
      show (vs.toArray.zip vs.toArray).map (·.2) = vs.toArray
      apply Array.ext
      · simp
      · intro i h1 h2; simp
    rw [hmap]
    refine wpAny_bind (listUpdate_at ho6 rfl ?_ (Nat.zero_le _) (by rw [List.size_toArray, sizeLine_eq]; (first | assumption | exact Nat.le_of_ble_eq_true rfl | exact Nat.add_le_add_left (Nat.le_of_ble_eq_true rfl) _ | exact Nat.le_trans (by assumption) (Nat.le_of_ble_eq_true rfl) | lia | omega)))
    simp only [bne_self_eq_false, Bool.false_eq_true, if_false]
    refine wpAny_pure (h vs fun b hb => ?_)
    have : sortK ks = ks := by unfold sortK; rw [if_pos (by rw [← hvl]; simpa using h2)]
    rw [this]; exact hb
  · rw [if_neg h2, if_neg h2]
    have h2' : 2 ≤ ks.length := by rw [← hvl]; simpa using h2
    have le6 : ∀ b o, b ≠ a → s.heap.get? b = some o → (((s.heap.update a (Obj.mapSeq fun _ => #[])).push (seqObj "tuple" vs.toArray 0)).push (seqObj "list" #[] 0)).get? b = some o := fun b o hb e =>
      Heap.get?_push_of_some _ (Heap.get?_push_of_some _ ((Heap.get?_update_other _ _ (Ne.symm hb)).trans e))
    have x6 : Ones (((s.heap.update a (Obj.mapSeq fun _ => #[])).push (seqObj "tuple" vs.toArray 0)).push (seqObj "list" #[] 0)) vs ks := by
      have key : ∀ {vs' : List Value} {ks' : List Int}, Ones s.heap vs' ks' → (∀ v ∈ vs', v ≠ .ref a) → Ones (((s.heap.update a (Obj.mapSeq fun _ => #[])).push (seqObj "tuple" vs.toArray 0)).push (seqObj "list" #[] 0)) vs' ks' := fun x => by
        induction x with
        | nil => exact fun _ => .nil
        | @cons a' k t vs' ks' h1 _ ih =>
          intro hx
          obtain ⟨o, ho', r⟩ := h1
          exact .cons ⟨o, le6 a' o (fun e => hx _ (.head _) (by rw [e])) ho', r⟩ (ih fun v hv => hx v (.tail _ hv))
      exact key x hx
    obtain ⟨fs, hT, hI⟩ := x6.tups
    have hfl : fs.length = ks.length := by
      have : ∀ {fs : List Value} {ks : List Int}, IntsAre fs ks → fs.length = ks.length := fun h => by induction h with
        | nil => rfl
        | cons _ _ _ ih => simp [ih]
      exact this hI
    have hint : ∀ v ∈ fs, Looks (Md w) (((s.heap.update a (Obj.mapSeq fun _ => #[])).push (seqObj "tuple" vs.toArray 0)).push (seqObj "list" #[] 0)) (typeOf v) (.type "int") := by
      have : ∀ {fs : List Value} {ks : List Int}, IntsAre fs ks → ∀ v ∈ fs, Looks (Md w) (((s.heap.update a (Obj.mapSeq fun _ => #[])).push (seqObj "tuple" vs.toArray 0)).push (seqObj "list" #[] 0)) (typeOf v) (.type "int") := fun h => by
        induction h with
        | nil => intro v hv; cases hv
        | cons n t _ ih =>
          intro v hv
          rcases List.mem_cons.mp hv with rfl | hv
          · exact Looks.of_pure rfl
          · exact ih v hv
      exact this hI
    refine wpAny_bind (kat_kind (s := { s with heap := ((s.heap.update a (Obj.mapSeq fun _ => #[])).push (seqObj "tuple" vs.toArray 0)).push (seqObj "list" #[] 0) }) hT (by (first | assumption | exact Nat.le_of_ble_eq_true rfl | exact Nat.add_le_add_left (Nat.le_of_ble_eq_true rfl) _ | exact Nat.le_trans (by assumption) (Nat.le_of_ble_eq_true rfl) | lia | omega)) hint (by decide) ?_)
    rw [show (Value.type "int" != Value.type "tuple") = true by decide]
    refine wpAny_bind (wpAny_mono (kat_run (Q := fun st' s' => arrOf st' = (evalT (ltK ks) (kas_sort ks.length)).map (kas_item (vs.toArray.zip vs.toArray)) ∧ failedOf st' = none ∧ s' = { s with heap := ((s.heap.update a (Obj.mapSeq fun _ => #[])).push (seqObj "tuple" vs.toArray 0)).push (seqObj "list" #[] 0) })
      (G := fun p s' => p = evalT (ltK ks) (kas_sort ks.length) ∧ s' = { s with heap := ((s.heap.update a (Obj.mapSeq fun _ => #[])).push (seqObj "tuple" vs.toArray 0)).push (seqObj "list" #[] 0) }) rfl (by (first | assumption | exact Nat.le_of_ble_eq_true rfl | exact Nat.add_le_add_left (Nat.le_of_ble_eq_true rfl) _ | exact Nat.le_trans (by assumption) (Nat.le_of_ble_eq_true rfl) | lia | omega)) (by (first | assumption | exact Nat.le_of_ble_eq_true rfl | exact Nat.add_le_add_left (Nat.le_of_ble_eq_true rfl) _ | exact Nat.le_trans (by assumption) (Nat.le_of_ble_eq_true rfl) | lia | omega)) (fun p' st' s' a1 a2 a3 ⟨a4, a5⟩ => ⟨a4 ▸ a2, a3, a5⟩) ?_) ?_ fun _ _ e => e)
    · rw [hvl]
      exact kas_eval (n := ks.length) (p := permOk ks.length) (lt := ltK ks) (fun i j C hi hj hC => lt_ones x6 hi hj hC) (chk_all h2' h4) ⟨rfl, rfl⟩
    · rintro ⟨⟨⟩, st'⟩ s' ⟨har, hf, rfl⟩
      dsimp only
      have hout := kat_snds (ks := vs) (vs := vs) rfl har
      rw [hout]
      refine wpAny_bind (seqEpoch_at ho6 rfl ?_)
      have hp : (evalT (ltK ks) (kas_sort ks.length)).toList.Perm (List.range ks.length) := List.isPerm_iff.mp (chk_eval (p := permOk ks.length) (lt := ltK ks) (chk_all h2' h4))
      have hpl : (evalT (ltK ks) (kas_sort ks.length)).toList.length = ks.length := by rw [hp.length_eq]; simp
      refine wpAny_bind (listUpdate_at ho6 rfl ?_ (Nat.zero_le _) (by rw [List.size_toArray, List.length_map, hpl, sizeLine_eq]; (first | assumption | exact Nat.le_of_ble_eq_true rfl | exact Nat.add_le_add_left (Nat.le_of_ble_eq_true rfl) _ | exact Nat.le_trans (by assumption) (Nat.le_of_ble_eq_true rfl) | lia | omega)))
      rw [hf]
      simp only [bne_self_eq_false, Bool.false_eq_true, if_false]
      refine wpAny_pure (h _ fun b hb => ?_)
      unfold sortK
      rw [if_neg (by (first | assumption | exact Nat.le_of_ble_eq_true rfl | exact Nat.add_le_add_left (Nat.le_of_ble_eq_true rfl) _ | exact Nat.le_trans (by assumption) (Nat.le_of_ble_eq_true rfl) | lia | omega))]
      have hmem : ∀ i ∈ (evalT (ltK ks) (kas_sort ks.length)).toList, i < ks.length := fun i hi => by simpa using hp.mem_iff.mp hi
      have key : ∀ l : List Nat, (∀ i ∈ l, i < ks.length) → Ones b (l.map fun i => vs.getD i .none) (l.map fun i => ks.getD i 0) := fun l => by
        induction l with
        | nil => intro _; exact .nil
        | cons i l ih =>
          intro hl
          obtain ⟨a', t, e, ht⟩ := hb.get (hl i (.head _))
          rw [List.map_cons, List.map_cons, e]
          exact .cons ht (ih fun j hj => hl j (.tail _ hj))
      exact key _ hmem

theorem of_ones {b : Heap} {vs : List Value} {ks : List Int} (x : Ones b vs ks) : VRs w b (ks.map one) vs := by
  induction x with
  | nil => simp [VRs]
  | @cons a k t vs ks h1 _ ih =>
    simp only [List.map_cons, VRs, one, VR]
    exact ⟨⟨a, [.int k t], rfl, h1, by simp only [VRs, VR]; exact ⟨⟨t, rfl⟩, trivial⟩⟩, by simpa only [one] using ih⟩
theorem ones_key {h : Heap} {k : Int} {a : Addr} (x : (TK w).is h [k] a) : ∃ t, IsTup h a #[.int k t] := by
  obtain ⟨o, items, n, ho, hc, hd, hi⟩ := x
  cases e : items.toList with
  | nil => rw [e] at hi; cases hi
  | cons v r =>
    rw [e] at hi
    cases hi with
    | cons h1 h2 =>
      cases r with
      | cons _ _ => cases h2
      | nil =>
        have hv : ∃ t, v = .int k t := by
          cases v <;> simp [intKind, Value.isInt] at h1
          rename_i n t
          exact ⟨t, by rw [h1]⟩
        obtain ⟨t, rfl⟩ := hv
        refine ⟨t, o, ho, hc, n, ?_⟩
        rw [hd, show items = #[Value.int k t] from Array.toList_inj.mp e]

theorem Fn.sortedK {ks : List Int} (h4 : ks.length ≤ 4) : Fn w H n (.builtin "sorted") own [.tdc ks] (.lst ((sortK ks).map one)) own := Fn.act1 fun A b s u rm B r => by
  simp only [VR] at r
  obtain ⟨d, xs, rfl, hsys, hd, hx⟩ := r
  obtain ⟨o, es, ep, ho, hc, hdat, hes, hkeys, hnd⟩ := B.sub.dictOfH hd
  have hxl : xs.length = ks.length := by have := congrArg List.length hx; simpa using this
  have hsz : es.size = ks.length := by rw [size_of_entries hes, hxl]
  have raw : RawD s.heap d es ep := ⟨o, ho, hc, hdat⟩
  refine Calls.call_function_entry kind_sorted plain_sorted entry_sorted (args_sorted1 _) ?_
  unfold Builtin.«sorted»
  refine wpAny_bind (m := checkCount "sorted" 1 1 _) (wpAny_pure ?_)
  refine wpAny_bind (raw_collect hsys rm.hd raw (by (first | assumption | exact Nat.le_of_ble_eq_true rfl | exact Nat.add_le_add_left (Nat.le_of_ble_eq_true rfl) _ | exact Nat.le_trans (by assumption) (Nat.le_of_ble_eq_true rfl) | lia | omega)) fun h₁ tk acc le₁ hacc => ?_)
  refine wpAny_bind (wpAny_newList ?_ (by rw [Array.length_toList, hacc.1, sizeLine_eq]; (first | assumption | exact Nat.le_of_ble_eq_true rfl | exact Nat.add_le_add_left (Nat.le_of_ble_eq_true rfl) _ | exact Nat.le_trans (by assumption) (Nat.le_of_ble_eq_true rfl) | lia | omega)))
  have hb : ∀ x ∈ xs, (TK w).is b x.1 x.2.1 := by
    obtain ⟨_, _, _, _, _, _, _, hk, _⟩ := hd
    exact hk
  have hones : Ones b acc.toList ks := by
    have key : ∀ (ks : List Int) (xs : List (List Int × Addr × Value)) (vs : List Value), xs.map (·.1) = (ks.map fun k => [k]) → (∀ x ∈ xs, (TK w).is b x.1 x.2.1) → vs.length = ks.length → (∀ (j : Nat) v, vs[j]? = some v → ∃ x, xs[j]? = some x ∧ v = .ref x.2.1) → Ones b vs ks := fun ks => by
      induction ks with
      | nil => intro xs vs _ _ hl _; have : vs = [] := List.length_eq_zero_iff.mp hl
               subst this; exact .nil
      | cons k ks ih => intro xs vs hx hk hl hj; cases vs with
        | nil => simp at hl
        | cons v vs => cases xs with
          | nil => simp at hx
          | cons x xs =>
            simp only [List.map_cons, List.cons.injEq] at hx
            obtain ⟨x', e1, e2⟩ := hj 0 v (by simp)
            simp at e1; subst e1
            obtain ⟨t, ht⟩ := ones_key (hx.1 ▸ hk x (.head _))
            rw [e2]
            exact .cons ht (ih xs vs hx.2 (fun y hy => hk y (.tail _ hy)) (by simpa using hl) fun j v hv => by simpa using hj (j + 1) v (by simpa using hv))
    refine key ks xs acc.toList hx hb (by rw [Array.length_toList, hacc.1, hsz]) fun j v hv => ?_
    obtain ⟨en, e1, e2⟩ := hacc.2 j v (by rw [← Array.getElem?_toList]; exact hv)
    rw [entry_at hes] at e1
    obtain ⟨x, hx1, hx2⟩ := Option.map_eq_some_iff.mp e1
    exact ⟨x, hx1, by rw [e2, ← hx2]; rfl⟩
  have hL : (h₁.push (seqObj "list" acc.toList.toArray 0)).get? h₁.objs.size = some (seqObj "list" acc.toList.toArray 0) := Heap.get?_push_size _ rfl
  have k₂ : Le s.heap (h₁.push (seqObj "list" acc.toList.toArray 0)) := fun a q e => Heap.get?_push_of_some _ (le₁ a q e)
  have hne : ∀ v ∈ acc.toList, v ≠ .ref h₁.objs.size := by
    have : ∀ {vs : List Value} {ks : List Int}, Ones b vs ks → ∀ v ∈ vs, v ≠ .ref h₁.objs.size := fun x => by
      induction x with
      | nil => intro v hv; cases hv
      | cons h1 _ ih =>
        intro v hv
        rcases List.mem_cons.mp hv with rfl | hv
        · intro e
          obtain ⟨q, hq, _⟩ := h1
          have := le₁ _ _ (B.sub _ _ hq)
          cases e
          exact Nat.lt_irrefl _ (Heap.lt_size this)
        · exact ih v hv
    exact this hones
  show wpAny _ _ _ _ _ { s with heap := h₁.push (seqObj "list" acc.toList.toArray 0), toks := tk }
  refine wpAny_bind (wpAny_holding (wpAny_call_entry slot_list_sort ⟨_, hL, rfl⟩ entry_list_sort (sort_ones (s := { s with heap := h₁.push (seqObj "list" acc.toList.toArray 0), toks := tk }) hL (hones.keep (B.sub.trans k₂)) hne h4 fun out hout => ⟨_, rfl, ?_⟩) (args_list_sort _)))
  refine wpAny_pure ⟨_, rfl, ?_⟩
  have k' : Keeps s { s with heap := sortedHeap (h₁.push (seqObj "list" acc.toList.toArray 0)) h₁.objs.size acc.toList out.toArray, toks := tk } := ⟨_, _, rfl, fun a q e => by
    have hlt : a < h₁.objs.size := Heap.lt_size (le₁ a q e)
    rw [sortedHeap_old (Nat.ne_of_lt hlt) (by rw [Heap.size_push]; exact Nat.lt_succ_of_lt hlt)]
    exact k₂ a q e⟩
  refine ⟨k', ?_⟩
  obtain ⟨e, he⟩ := sortedHeap_at (vs := acc.toList) (out := out.toArray) hL
  simp only [VR]
  refine ⟨_, out, rfl, ⟨_, e, growH_new ?_ he, rfl, rfl, rfl⟩, of_ones ((hout b hones).keep (le_growH B.sub (Keeps.le k')))⟩
  cases q : s.heap.get? h₁.objs.size with
  | none => rfl
  | some z => exact absurd (Heap.lt_size (le₁ _ _ q)) (Nat.lt_irrefl _)
end
end Mine
end
section
open PySem PySem.W PyProof.Rows PySem.MeetsSeq PySem.SeqAt
set_option maxRecDepth 100000
namespace Mine

/- the program's defs, by their places -/
noncomputable def partsOf : Option Stmt → Arguments × List Stmt × Scope
  | some (.FunctionDef _ args body _ _ _ scope _ _ _) => (args, body, scope)
  | _ => (⟨[], [], none, [], [], none, []⟩, [], { kind := .function, names := [], isGenerator := false, isCoroutine := false })
noncomputable def membersOf : Option Stmt → List Stmt
  | some (.ClassDef _ _ _ body _ _ _ _ _ _ _) => body
  | _ => []
noncomputable def top (i : Nat) : Arguments × List Stmt × Scope := partsOf Pg.main.body[i]?
noncomputable def mem (i j : Nat) : Arguments × List Stmt × Scope := partsOf (membersOf Pg.main.body[i]?)[j]?

/-- the frame of a def's call -/
noncomputable def fenv (sc : Scope) (L a : Addr) (q : Str) (cd : Value) : Env := newEnv sc L mainGlobals (cellsFrom (L + 1) sc.names []) q (some a) cd none builtinsNs

/-- a def of the program lies at a -/
structure DefAt (H : Heap) (a : Addr) (d : Arguments × List Stmt × Scope) : Prop where
  ex : ∃ o fd, H.get? a = some o ∧ o.cls = .type "function" ∧ o.data = .func fd ∧ H.CodeRec fd.code fd.qualname ∧ fd.body = .stmts d.2.1 ∧ fd.closure = [] ∧ fd.globals = mainGlobals ∧ fd.builtins = builtinsNs ∧ fd.scope = d.2.2 ∧ fd.params = d.1 ∧ fd.defaults = .none ∧ fd.kwdefaults = .none

/-- its parameters, plain -/
structure Params (d : Arguments × List Stmt × Scope) (ps : List Str) : Prop where
  kind : d.2.2.kind = .function
  co : d.2.2.isCoroutine = false
  gen : d.2.2.isGenerator = false
  bind : ∀ (fd : FuncData) (us : List Value), fd.params = d.1 → fd.defaults = .none → fd.kwdefaults = .none → us.length = ps.length → bindArgs fd ⟨us, []⟩ = pure (ps.zip us)
  par : ps.Nodup
  kinds : ∀ x ∈ ps, d.2.2.names.lookup x = some .local ∨ (d.2.2.names.lookup x = some .cell ∧ (x, .cell) ∈ d.2.2.names)

/-- how a def's body may end -/
noncomputable abbrev NoneG (own : Own) (G : V → Own → Prop) : Names → Own → Prop := fun _ o => ∃ own₁ r, o = own₁ ++ r ∧ own₁.map (·.1) = own.map (·.1) ∧ G (.raw .none) own₁
noncomputable abbrev RetG (own : Own) (G : V → Own → Prop) : V → Own → Prop := fun d' o => ∃ own₁ r, o = own₁ ++ r ∧ own₁.map (·.1) = own.map (·.1) ∧ G d' own₁
noncomputable abbrev NoneF (r : V) (own₁ : Own) : Names → Own → Prop := fun _ o => r = .raw .none ∧ ∃ r', o = own₁ ++ r'
noncomputable abbrev RetF (r : V) (own₁ : Own) : V → Own → Prop := fun d' o => d' = r ∧ ∃ r', o = own₁ ++ r'

section
variable {w : World} {H Z : Heap} {n : Nat} {pk : List Addr} {env : Env} {ρ ρc : Names} {o₀ o₁ o₂ o₃ own own₁ own₂ F : Own} {N : Names → Own → Prop} {R : V → Own → Prop} {sts : List Stmt} {st : Stmt}

theorem Fc.enter {a : Addr} {d : Arguments × List Stmt × Scope} {ps : List Str} {ds : List V} {G : V → Own → Prop} {mg mb : Str → Option Value} (Gv : Gl H mg mb) (D : DefAt H a d) (P : Params d ps) (hl : ps.length = ds.length)
    (h : ∀ L q cd, EnvOk (fenv d.2.2 L a q cd) → Sx w H n (own.map (·.1)) (fenv d.2.2 L a q cd) d.2.1 (argsρ ps ds) own (NoneG own G) (RetG own G)) : Fc w H (n + 1) (.ref a) own ds G := by
  obtain ⟨o, fd, ho, hc, hd, hcode, hb, hclo, hg, hbl, hsc, hp, hdf, hkd⟩ := D.ex
  refine Fc.body (fd := fd) (body := d.2.1) (ps := ps) Gv ⟨⟨o, ho, hd⟩, hcode, hb, hclo, hg, hbl, hsc ▸ P.kind, hsc ▸ P.co, hsc ▸ P.gen, fun us hu => P.bind fd us hp hdf hkd hu, P.par, fun x hx => ?_⟩ hl fun L ok => ?_
  · rw [hsc]
    rcases P.kinds x hx with h1 | ⟨h1, h2⟩
    · exact .inl h1
    · exact .inr ⟨h1, fun k => cellsFrom_isSome (.inl h2)⟩
  · have e : callEnvC fd L a = fenv d.2.2 L a (fd.qualname ++ ".<locals>.") fd.code := by
      unfold callEnvC fenv; rw [hg, hbl, hsc]
    rw [e] at ok ⊢
    exact h L _ _ ok
theorem Fr'.enter {a : Addr} {d : Arguments × List Stmt × Scope} {ps : List Str} {ds : List V} {G : V → Own → Prop} {mg mb : Str → Option Value} (Gv : Gl H mg mb) (D : DefAt H a d) (P : Params d ps) (hl : ps.length = ds.length)
    (h : ∀ L q cd, EnvOk (fenv d.2.2 L a q cd) → Sx w H n (own.map (·.1)) (fenv d.2.2 L a q cd) d.2.1 (argsρ ps ds) own (NoneG own G) (RetG own G)) : Fr' w H (n + 1) (.ref a) own ds G := Fr'.of (Fc.enter Gv D P hl h)
theorem Fn.enter {a : Addr} {d : Arguments × List Stmt × Scope} {ps : List Str} {ds : List V} {r : V} {mg mb : Str → Option Value} (Gv : Gl H mg mb) (D : DefAt H a d) (P : Params d ps) (hl : ps.length = ds.length) (hk : own₁.map (·.1) = own.map (·.1))
    (h : ∀ L q cd, EnvOk (fenv d.2.2 L a q cd) → Sx w H n (own.map (·.1)) (fenv d.2.2 L a q cd) d.2.1 (argsρ ps ds) own (NoneF r own₁) (RetF r own₁)) : Fn w H (n + 1) (.ref a) own ds r own₁ := by
  refine ⟨hk, fun A b s us rm B hr => wpAny_mono (Fr'.enter (G := fun d' o => d' = r ∧ o = own₁) Gv D P hl (fun L q cd ok => (h L q cd ok).mono (fun ρ o ⟨h1, r', h2⟩ => ⟨own₁, r', h2, hk, h1.symm, rfl⟩) fun d' o ⟨h1, r', h2⟩ => ⟨own₁, r', h2, hk, h1, rfl⟩) A b s us rm B hr) (fun v s' ⟨b', d', own', ⟨h1, h2⟩, _, st, B', rv⟩ => ?_) fun _ _ x => x⟩
  subst h1 h2
  exact ⟨b', st, B', rv⟩
end

theorem us1 {us : List Value} (h : us.length = 1) : ∃ a, us = [a] := List.length_eq_one_iff.mp h
theorem usS {k : Nat} {us : List Value} (h : us.length = k + 1) : ∃ a r, us = a :: r ∧ r.length = k := by
  cases us with
  | nil => cases h
  | cons a r => exact ⟨a, r, rfl, Nat.succ.inj h⟩
theorem us2 {us : List Value} (h : us.length = 2) : ∃ a b, us = [a, b] := by
  obtain ⟨a, r, rfl, g⟩ := usS h
  obtain ⟨b, rfl⟩ := us1 g
  exact ⟨a, b, rfl⟩
theorem us3 {us : List Value} (h : us.length = 3) : ∃ a b c, us = [a, b, c] := by
  obtain ⟨a, r, rfl, g⟩ := usS h
  obtain ⟨b, c, rfl⟩ := us2 g
  exact ⟨a, b, c, rfl⟩
theorem us4 {us : List Value} (h : us.length = 4) : ∃ a b c d, us = [a, b, c, d] := by
  obtain ⟨a, r, rfl, g⟩ := usS h
  obtain ⟨b, c, d, rfl⟩ := us3 g
  exact ⟨a, b, c, d, rfl⟩
theorem us5 {us : List Value} (h : us.length = 5) : ∃ a b c d e, us = [a, b, c, d, e] := by
  obtain ⟨a, r, rfl, g⟩ := usS h
  obtain ⟨b, c, d, e, rfl⟩ := us4 g
  exact ⟨a, b, c, d, e, rfl⟩
theorem P_below : Params (top 54) ["plan", "label"] where
  kind := by rfl
  co := by rfl
  gen := by rfl
  bind := fun fd us hp hd hk hl => by
    obtain ⟨u, v, rfl⟩ := us2 hl; cases fd; dsimp only at hp hd hk; subst hp hd hk; rfl
  par := by (first | kernel_rfl | decide +kernel)
  kinds := by
    intro x hx
    simp only [List.mem_cons, List.not_mem_nil, or_false] at hx
    rcases hx with rfl | rfl
    · exact .inr ⟨by rfl, by (first | kernel_rfl | decide +kernel)⟩
    · exact .inr ⟨by rfl, by (first | kernel_rfl | decide +kernel)⟩
end Mine
end
section
open PySem PySem.W PyProof.Rows PySem.MeetsSeq PySem.SeqAt
set_option maxRecDepth 100000
namespace Mine

structure Lab where
  name : Str
  parent : Str
  parts : List Str
  hollow : Bool
  mark : Str
noncomputable def Lab.v (l : Lab) : V := .tup [.str l.parent, .tup (l.parts.map .str), .raw (.bool l.hollow), .str l.mark]
noncomputable def planV (P : List Lab) : List (Str × V) := P.map fun l => (l.name, l.v)
noncomputable def findL (P : List Lab) (x : Str) : Option Lab := P.find? fun l => l.name = x
theorem lookV_plan {P : List Lab} {x : Str} : lookV (planV P) x = (findL P x).map Lab.v := by
  unfold lookV planV findL
  rw [List.find?_map]
  simp [Function.comp_def, Option.map_map]

section
variable {w : World} {H Z : Heap} {n : Nat} {pk : List Addr} {env : Env} {ρ ρc : Names} {o₀ o₁ o₂ o₃ own own₁ own₂ F : Own} {N : Names → Own → Prop} {R : V → Own → Prop} {sts : List Stmt} {st : Stmt}

/-- what a comprehension's frame wants, as one test -/
noncomputable def compChk (scope sc : Scope) (x : Str) : Bool :=
  (scope.kind == .function) && scope.names.all (fun y => y.2 != .free || sc.names.contains (y.1, .cell)) && decide ((scope.names.map (·.1)).Nodup) && (scope.names.contains (x, .local) || scope.names.contains (x, .cell))
theorem CompOk.of {scope sc : Scope} {x : Str} {L a : Addr} {q : Str} {cd : Value} (h : compChk scope sc x = true) : CompOk scope (fenv sc L a q cd) x := by
  unfold compChk at h
  simp only [Bool.and_eq_true, Bool.or_eq_true, decide_eq_true_eq, List.all_eq_true] at h
  obtain ⟨⟨⟨h1, h2⟩, h3⟩, h4⟩ := h
  refine ⟨by simpa using h1, fun y hy hf => cellsFrom_isSome (.inl ?_), h3, ?_⟩
  · rcases h2 y hy with h | h
    · rw [hf] at h; exact absurd h (by decide)
    · exact List.contains_iff_mem.mp h
  · rcases h4 with h | h
    · exact .inl (List.contains_iff_mem.mp h)
    · exact .inr (List.contains_iff_mem.mp h)

noncomputable def capρ (l : List (Str × V)) : Names := fun y => l.lookup y
inductive CapL (w : World) (H : Heap) (env : Env) (ρ : Names) (F : Own) (scope : Scope) : List (Str × V) → Prop
  | nil : CapL w H env ρ F scope []
  | cons {x d d₀ l} : scope.names.contains (x, .free) = true → env.kindOf x = some .cell → ρ x = some d₀ → Fzd w H F d₀ d → CapL w H env ρ F scope l → CapL w H env ρ F scope ((x, d) :: l)
theorem CapL.cap {scope : Scope} {l : List (Str × V)} (h : CapL w H env ρ F scope l) : ∀ y d, capρ l y = some d → (y, .free) ∈ scope.names ∧ env.kindOf y = some .cell ∧ ∃ d₀, ρ y = some d₀ ∧ Fzd w H F d₀ d := by
  induction h with
  | nil => intro y d h; simp [capρ] at h
  | @cons x d₁ d₀ l h1 h2 h3 h4 _ ih =>
    intro y d h
    unfold capρ at h
    rw [List.lookup_cons] at h
    cases e : y == x with
    | true =>
      rw [e] at h
      cases h
      have : y = x := by simpa using e
      subst this
      exact ⟨List.contains_iff_mem.mp h1, h2, d₀, h3, h4⟩
    | false => rw [e] at h; exact ih y d h

noncomputable def parentIs (P : List Lab) (x : Str) : V → Bool
  | .str y => match findL P y with
    | some l => l.parent == x
    | none => false
  | _ => false

theorem keys_plan {P : List Lab} : (planV P).map (fun p => V.str p.1) = P.map fun l => V.str l.name := by simp [planV, Function.comp_def]
theorem find_mem {P : List Lab} {l : Lab} (hl : l ∈ P) : ∃ l', findL P l.name = some l' ∧ l' ∈ P ∧ l'.name = l.name := by
  unfold findL
  cases e : P.find? (fun k => k.name = l.name) with
  | none => have := List.find?_eq_none.mp e l hl; simp at this
  | some l' => exact ⟨l', rfl, List.mem_of_find?_eq_some e, by have := List.find?_some e; simpa using this⟩

theorem below_fn {a : Addr} {P : List Lab} {x : Str} {mg mb : Str → Option Value} (Gv : Gl H mg mb) (D : DefAt H a (top 54)) (hP : P.length ≤ 100) :
    Fn w H (n + 1) (.ref a) own [.dct (planV P), .str x] (.lst ((P.map fun l => V.str l.name).filter (parentIs P x))) own := by
  refine Fn.enter Gv D P_below rfl rfl fun L q cd ok => ?_
  refine Sx.cons (S1.ret (Ev.comp (x := "one") (F := []) (Src.of (Ev.name (d := .dct (planV P)) (by rfl)) (Itr.dct .dct) (List.nil_sublist _)) (List.nil_sublist _) (p := parentIs P x) (f := id) (ρc := capρ [("plan", .dct (planV P)), ("label", .str x)])
    ⟨CompOk.of (by (first | kernel_rfl | decide +kernel)), by simpa [planV] using Nat.le_trans hP (by decide), CapL.cap (.cons (by (first | kernel_rfl | decide +kernel)) (by rfl) (by rfl) Fzd.same (.cons (by (first | kernel_rfl | decide +kernel)) (by rfl) (by rfl) Fzd.same .nil)), .inl rfl, fun C okc d hd => ?_, fun C okc d hd _ => ?_⟩) ⟨by rw [keys_plan, List.map_id], [], by simp⟩)
  · rw [keys_plan] at hd
    obtain ⟨l, hl, rfl⟩ := List.mem_map.mp hd
    obtain ⟨l', h1, h2, h3⟩ := find_mem hl
    have e : parentIs P x (.str l.name) = (l'.parent == x) := by simp [parentIs, h1]
    rw [e]
    exact Tst.one (Te.cmp (Ev.sub (Ev.sub (Ev.name (d := .dct (planV P)) (by rfl)) (Ev.name (d := .str l.name) (by rfl)) (Op2.subDct .dct (by rw [lookV_plan, h1]; rfl))) Ev.constInt (Op2.subTup (by decide) (by rfl))) (Ev.name (by rfl)) Op2.eqStr)
  · exact Ev.name (by rfl)
end
end Mine
end
section
open PySem PySem.W PyProof.Rows PySem.MeetsSeq PySem.SeqAt
set_option maxRecDepth 100000
namespace Mine

/-- what is drawn -/
noncomputable def drw (cs : List Int) (s : Nat) (wide : Int) : Int :=
  if s + 1 ≤ cs.length then (cs.getD s 0).fmod wide else ((((11 * ((s : Int) + 1) * ((s : Int) + 1) + 7 * ((s : Int) + 1) + 2).fmod 1013).fdiv 3).fmod wide)
theorem drw_lo {cs : List Int} {s : Nat} {wide : Int} (h : 0 < wide) : 0 ≤ drw cs s wide := by
  unfold drw; split <;> exact Int.fmod_nonneg_of_pos _ h
theorem drw_hi {cs : List Int} {s : Nat} {wide : Int} (h : 0 < wide) : drw cs s wide < wide := by
  unfold drw; split <;> exact Int.fmod_lt_of_pos _ h
noncomputable def feedV (cs : List Int) (s : Nat) : List (Str × V) := [("cells", .lst (cs.map .int)), ("spot", .int s)]

theorem P_draw : Params (top 52) ["feed", "wide"] where
  kind := by rfl
  co := by rfl
  gen := by rfl
  bind := fun fd us hp hd hk hl => by
    obtain ⟨u, v, rfl⟩ := us2 hl; cases fd; dsimp only at hp hd hk; subst hp hd hk; rfl
  par := by (first | kernel_rfl | decide +kernel)
  kinds := by
    intro x hx
    simp only [List.mem_cons, List.not_mem_nil, or_false] at hx
    rcases hx with rfl | rfl <;> exact .inl (by rfl)

section
variable {w : World} {H Z : Heap} {n : Nat} {pk : List Addr} {env : Env} {ρ ρc : Names} {o₀ o₁ o₂ o₃ own own₁ own₂ F : Own} {N : Names → Own → Prop} {R : V → Own → Prop} {sts : List Stmt} {st : Stmt}

theorem Ev.cast {e : Expr} {d d' : V} (x : Ev w H n env ρ o₀ e d o₁) (h : d = d') : Ev w H n env ρ o₀ e d' o₁ := h ▸ x
theorem Te.cast {e : Expr} {q q' : Bool} (x : Te w H n env ρ o₀ e q o₁) (h : q = q') : Te w H n env ρ o₀ e q' o₁ := h ▸ x
theorem Fn.cast {f : Value} {ds : List V} {d d' : V} (x : Fn w H n f o₀ ds d o₁) (h : d = d') : Fn w H n f o₀ ds d' o₁ := h ▸ x
theorem pylong3 {x : Int} : Builtin.divisionGoesByPylong x 3 = false := by rfl

/-- the globals that hold the program's defs -/
structure Has (H : Heap) (mg : Str → Option Value) (x : Str) (d : Arguments × List Stmt × Scope) (a : Addr) : Prop where
  at_ : DefAt H a d
  nm : mg x = some (.ref a)
theorem Has.kind {mg : Str → Option Value} {x : Str} {d : Arguments × List Stmt × Scope} {a : Addr} (h : Has H mg x d a) : Kind H (.ref a) := by
  obtain ⟨o, fd, ho, hc, hd, _⟩ := h.at_.ex
  exact .fn ho hd

theorem draw_fn {a f : Addr} {cs : List Int} {s : Nat} {wide : Int} {mg mb : Str → Option Value} (Gv : Gl H mg mb) (D : DefAt H f (top 52)) (hlen : mg "len" = none ∧ mb "len" = some (.builtin "len")) (hw : 0 < wide) (hs : s ≤ 100000) (hc : cs.length ≤ 1000) :
    Fn w H (n + 1) (.ref f) [(a, .dict (feedV cs s))] [.raw (.ref a), .int wide] (.int (drw cs s wide)) [(a, .dict (feedV cs (s + 1)))] := by
  refine Fn.enter Gv D P_draw rfl rfl fun L q cd ok => ?_
  have hA : ∀ {s : Nat}, AsD [(a, O.dict (feedV cs s))] (.raw (.ref a)) (feedV cs s) := .own (.head _)
  refine Sx.cons (S1.setD (Eg.of (Ev.binop (Ev.sub (Ev.name (d := .raw (.ref a)) (by rfl)) Ev.constStr (Op2.subDct hA (d := .int s) (by rfl))) (Ev.constInt) Op2.addInt) ⟨a, "spot", feedV cs s, [], [], _, Ev.name (by rfl), Ev.constStr, by simp [feedV], ?_⟩))
  have e : storedV (feedV cs s) "spot" (.int ((s : Int) + 1)) = feedV cs (s + 1) := by rfl
  rw [e, List.nil_append]
  refine Sx.cons (S1.assign (d := .int ((s + 1 : Nat) : Int)) (Ev.sub (Ev.name (d := .raw (.ref a)) (by rfl)) Ev.constStr (Op2.subDct hA (by rfl))) (.inl (by rfl)) ?_)
  refine Sx.cons (S1.ite (q := decide (s + 1 ≤ cs.length)) (Te.cast (Te.cmp (Ev.name (d := .int ((s + 1 : Nat) : Int)) (by rfl)) (Ev.call (o₁ := []) (o₂ := []) (r := [(a, .dict (feedV cs (s + 1)))]) (Ev.blt Gv (by rfl) hlen.1 hlen.2) (Es.cons (Ev.sub (Ev.name (d := .raw (.ref a)) (by rfl)) Ev.constStr (Op2.subDct hA (d := .lst (cs.map .int)) (by rfl))) Es.nil) (.builtin _) (Fn.lenL .lst (by rw [List.length_map]; (first | assumption | exact Nat.le_of_ble_eq_true rfl | exact Nat.add_le_add_left (Nat.le_of_ble_eq_true rfl) _ | exact Nat.le_trans (by assumption) (Nat.le_of_ble_eq_true rfl) | lia | omega)))) Op2.leInt) (by rw [List.length_map]; congr 1; simp; (first | assumption | exact Nat.le_of_ble_eq_true rfl | exact Nat.add_le_add_left (Nat.le_of_ble_eq_true rfl) _ | exact Nat.le_trans (by assumption) (Nat.le_of_ble_eq_true rfl) | lia | omega))) ?_)
  by_cases h : s + 1 ≤ cs.length
  · rw [decide_eq_true h]
    have hx : (cs.map V.int)[(((s + 1 : Nat) : Int) - 1).toNat]? = some (.int (cs.getD s 0)) := by
      have e : (((s + 1 : Nat) : Int) - 1).toNat = s := by (first | assumption | exact Nat.le_of_ble_eq_true rfl | exact Nat.add_le_add_left (Nat.le_of_ble_eq_true rfl) _ | exact Nat.le_trans (by assumption) (Nat.le_of_ble_eq_true rfl) | lia | omega)
      rw [e, List.getElem?_map]
      simp [List.getD, List.getElem?_eq_getElem (show s < cs.length by (first | assumption | exact Nat.le_of_ble_eq_true rfl | exact Nat.add_le_add_left (Nat.le_of_ble_eq_true rfl) _ | exact Nat.le_trans (by assumption) (Nat.le_of_ble_eq_true rfl) | lia | omega))]
    refine Sx.cons (S1.ret (Ev.binop (Ev.sub (Ev.sub (Ev.name (d := .raw (.ref a)) (by rfl)) Ev.constStr (Op2.subDct hA (d := .lst (cs.map .int)) (by rfl))) (Ev.binop (Ev.name (d := .int ((s + 1 : Nat) : Int)) (by rfl)) Ev.constInt Op2.subInt) (Op2.subLst .lst (by (first | assumption | exact Nat.le_of_ble_eq_true rfl | exact Nat.add_le_add_left (Nat.le_of_ble_eq_true rfl) _ | exact Nat.le_trans (by assumption) (Nat.le_of_ble_eq_true rfl) | lia | omega)) hx)) (Ev.name (by rfl)) (Op2.modInt (by (first | assumption | exact Nat.le_of_ble_eq_true rfl | exact Nat.add_le_add_left (Nat.le_of_ble_eq_true rfl) _ | exact Nat.le_trans (by assumption) (Nat.le_of_ble_eq_true rfl) | lia | omega)))) ⟨?_, [], by simp⟩)
    unfold drw; rw [if_pos h]
  · rw [decide_eq_false h]
    have hb : Builtin.Int.intBits (11 * ((s + 1 : Nat) : Int)) ≤ 64 := intBits_le_64 (by omega) (by omega)
    refine Sx.nil (Sx.cons (S1.ret (Ev.binop (Ev.binop (Ev.binop (Ev.binop (Ev.binop (Ev.binop (Ev.binop Ev.constInt (Ev.name (d := .int ((s + 1 : Nat) : Int)) (by rfl)) (Op2.mulInt (.of_left (by decide)))) (Ev.name (d := .int ((s + 1 : Nat) : Int)) (by rfl)) (Op2.mulInt (.of_left hb))) (Ev.binop Ev.constInt (Ev.name (d := .int ((s + 1 : Nat) : Int)) (by rfl)) (Op2.mulInt (.of_left (by decide)))) Op2.addInt) Ev.constInt Op2.addInt) Ev.constInt (Op2.modInt (by decide))) Ev.constInt (Op2.divInt (by decide) pylong3)) (Ev.name (by rfl)) (Op2.modInt (by (first | assumption | exact Nat.le_of_ble_eq_true rfl | exact Nat.add_le_add_left (Nat.le_of_ble_eq_true rfl) _ | exact Nat.le_trans (by assumption) (Nat.le_of_ble_eq_true rfl) | lia | omega)))) ⟨?_, [], by simp⟩))
    unfold drw; rw [if_neg h]; simp
end
end Mine
end
section
open PySem PySem.W PyProof.Rows PySem.MeetsSeq PySem.SeqAt
set_option maxRecDepth 100000
namespace Mine

noncomputable def letters : List Str := ["A", "B", "C", "D", "E", "F", "G", "H"]
noncomputable def marks : List Str := ["", "one", "lone", "some"]
theorem toNat_small {z : Int} {k : Nat} (h1 : 0 ≤ z) (h2 : z < k) : z.toNat < k := (Int.toNat_lt h1).mpr h2
theorem signs_letters {k : Int} (h1 : 5 ≤ k) (h2 : k ≤ 8) : signs (Txt.slice "ABCDEFGH" none (some k)) = (letters.take k.toNat).map .str := by
  obtain ⟨j, rfl⟩ := Int.eq_ofNat_of_zero_le (Int.le_trans (by decide) h1)
  obtain ⟨i, rfl⟩ := Nat.exists_eq_add_of_le (Int.ofNat_le.mp h1)
  have hi : i ≤ 3 := Nat.le_of_add_le_add_left (Int.ofNat_le.mp h2)
  clear h1 h2
  cases i with
  | zero => rfl
  | succ i => cases i with
    | zero => rfl
    | succ i => cases i with
      | zero => rfl
      | succ i => cases i with
        | zero => rfl
        | succ i => exact absurd hi (Nat.not_le.mpr (Nat.le_add_left 4 i))

/-- plans as they are drawn -/
inductive Wf : List Lab → Prop
  | nil : Wf []
  | snoc {P l} : Wf P → l.name ∉ P.map (·.name) → l.name ≠ ("" : Str) → (l.parent = ("" : Str) ∨ ∃ k ∈ P, k.name = l.parent ∧ k.parts = []) → (∀ y ∈ l.parts, y ∈ P.map (·.name)) → (l.parts ≠ [] → l.parent = ("" : Str) ∧ l.hollow = false) → l.mark ∈ marks → l.parts.length ≤ 10 → Wf (P ++ [l])

theorem P_plan : Params (top 53) ["feed"] where
  kind := by rfl
  co := by rfl
  gen := by rfl
  bind := fun fd us hp hd hk hl => by
    obtain ⟨u, rfl⟩ := us1 hl; cases fd; dsimp only at hp hd hk; subst hp hd hk; rfl
  par := by (first | kernel_rfl | decide +kernel)
  kinds := by
    intro x hx
    simp only [List.mem_cons, List.not_mem_nil, or_false] at hx
    rcases hx with rfl <;> exact .inl (by rfl)

section
variable {w : World} {H Z : Heap} {n : Nat} {pk : List Addr} {env : Env} {ρ ρc : Names} {o₀ o₁ o₂ o₃ own own₁ own₂ F : Own} {N : Names → Own → Prop} {R : V → Own → Prop} {sts : List Stmt} {st : Stmt}

/-- the built-ins that are read -/
structure Blts (mg mb : Str → Option Value) : Prop where
  len : mg "len" = none ∧ mb "len" = some (.builtin "len")
  sorted : mg "sorted" = none ∧ mb "sorted" = some (.builtin "sorted")
  list : mg "list" = none ∧ mb "list" = some (.type "list")
  tuple : mg "tuple" = none ∧ mb "tuple" = some (.type "tuple")
  dict : mg "dict" = none ∧ mb "dict" = some (.type "dict")
  range : mg "range" = none ∧ mb "range" = some (.type "range")
  int : mg "int" = none ∧ mb "int" = some (.type "int")
  enumerate : mg "enumerate" = none ∧ mb "enumerate" = some (.type "enumerate")
  super : mg "super" = none ∧ mb "super" = some (.type "super")

theorem Ev.draw {a f : Addr} {cs : List Int} {s : Nat} {wide : Int} {r : Own} {mg mb : Str → Option Value} {p1 p2 p3 : Pos} {e : Expr} (Gv : Gl H mg mb) (Bl : Blts mg mb) (Hd : Has H mg "_law_draw" (top 52) f) (hw : 0 < wide) (hs : s ≤ 100000) (hc : cs.length ≤ 1000)
    (hk : env.kindOf "_law_draw" = some .globalImplicit) (hf : ρ "feed" = some (.raw (.ref a))) (y : Ev w H (n + 1) env ρ ((a, .dict (feedV cs s)) :: r) e (.int wide) ((a, .dict (feedV cs s)) :: r))
    (hes : ∀ pos, backTo pos (starEach [.Name "feed" p2, e] env) = (false, eval (.Name "feed" p2) env) :: backTo pos (starEach [e] env) := by intro _; rfl)
    (hes' : ∀ pos, backTo pos (starEach [e] env) = (false, eval e env) :: backTo pos (starEach [] env) := by intro _; rfl)
    (hp : ∀ pos, (backTo pos (starEach [.Name "feed" p2, e] env)).any (·.1) = false := by intro _; rfl) :
    Ev w H (n + 1) env ρ ((a, .dict (feedV cs s)) :: r) (.Call (.Name "_law_draw" p1) [.Name "feed" p2, e] [] p3) (.int (drw cs s wide)) ((a, .dict (feedV cs (s + 1))) :: r) :=
  Ev.call (o₁ := [(a, .dict (feedV cs s))]) (o₂ := [(a, .dict (feedV cs s))]) (o₃ := [(a, .dict (feedV cs (s + 1)))]) (r := r) (Ev.glob Gv hk Hd.nm) (Es.cons (Ev.name hf) (Es.cons y Es.nil hes') hes) Hd.kind (draw_fn Gv Hd.at_ Bl.len hw hs hc) hp

noncomputable def partsNil (P : List Lab) : V → Bool
  | .str y => match findL P y with
    | some l => l.parts.isEmpty
    | none => false
  | _ => false
noncomputable def elderV (P : List Lab) : List V := (P.map fun l => V.str l.name).filter (partsNil P)
theorem elder_mem {P : List Lab} {d : V} (h : d ∈ elderV P) : ∃ l ∈ P, d = .str l.name ∧ l.parts = [] := by
  obtain ⟨h1, h2⟩ := List.mem_filter.mp h
  obtain ⟨l, hl, rfl⟩ := List.mem_map.mp h1
  obtain ⟨l', e1, e2, e3⟩ := find_mem hl
  refine ⟨l', e2, by rw [e3], ?_⟩
  simp only [partsNil, e1] at h2
  exact List.isEmpty_iff.mp h2

theorem storedV_new {kvs : List (Str × V)} {k : Str} {d : V} (h : k ∉ kvs.map (·.1)) : storedV kvs k d = kvs ++ [(k, d)] := by
  unfold storedV
  rw [if_neg]
  intro hx
  obtain ⟨p, hp, e⟩ := List.any_eq_true.mp hx
  exact h ((by simpa using e : p.1 = k) ▸ List.mem_map_of_mem hp)

theorem Src.cast {e : Expr} {ds ds' : List V} (x : Src w H n env ρ own F e ds own₁) (h : ds = ds') : Src w H n env ρ own F e ds' own₁ := h ▸ x

theorem Eg.mono {e : Expr} {G G' : V → Own → Prop} (x : Eg w H n pk env e ρ own G') (h : ∀ d o, G' d o → G d o) : Eg w H n pk env e ρ own G := fun A o₀ b₀ s₀ Z b s rm S =>
  wpAny_mono (x A o₀ b₀ s₀ Z b s rm S) (fun v s' ⟨b', d, own', g, r⟩ => ⟨b', d, own', h _ _ g, r⟩) fun _ _ f => f

theorem st2 {x y : Str} (h1 : Storable env x) (h2 : Storable env y) : ∀ z ∈ [x, y], Storable env z := fun z hz => by
  simp only [List.mem_cons, List.not_mem_nil, or_false] at hz
  rcases hz with rfl | rfl
  · exact h1
  · exact h2
theorem st3 {x y u : Str} (h1 : Storable env x) (h2 : Storable env y) (h3 : Storable env u) : ∀ z ∈ [x, y, u], Storable env z := fun z hz => by
  simp only [List.mem_cons, List.not_mem_nil, or_false] at hz
  rcases hz with rfl | rfl | rfl
  · exact h1
  · exact h2
  · exact h3

noncomputable def loopOf : Option Stmt → List Stmt
  | some (.For _ _ b _ _) => b
  | _ => []

theorem mark_at {k : Int} (h1 : 0 ≤ k) (h2 : k < 4) : ∃ m ∈ marks, (marks.map V.str)[k.toNat]? = some (.str m) := by
  have h : k.toNat < marks.length := toNat_small h1 h2
  exact ⟨_, List.getElem_mem h, by rw [List.getElem?_map, List.getElem?_eq_getElem h]; rfl⟩
theorem letter_new {i : Nat} {x : Str} (hx : letters[i]? = some x) (hi : i < 8) : x ∉ letters.take i := by
  have h : ∀ i : Fin 8, (letters[i.1]?).all (fun x => !(letters.take i.1).contains x) = true := by (first | kernel_rfl | decide +kernel)
  have := h ⟨i, hi⟩
  rw [hx] at this
  intro g
  rw [← List.contains_iff_mem] at g
  rw [Option.all_some, g] at this
  cases this
theorem letter_ne {i : Nat} {x : Str} (hx : letters[i]? = some x) : x ≠ ("" : Str) := by
  have h : ∀ y ∈ letters, y ≠ ("" : Str) := by (first | kernel_rfl | decide +kernel)
  exact h x (List.mem_iff_getElem?.mpr ⟨i, hx⟩)

/-- the turn's end: is_hollow, and the label is laid into the plan -/
theorem plan_tail {a p f fd L : Addr} {q : Str} {cd : Value} {cs : List Int} {P : List Lab} {s2 : Nat} {x pv : Str} {pts : List Str} {mg mb : Str → Option Value} (Gv : Gl H mg mb) (Bl : Blts mg mb) (Hd : Has H mg "_law_draw" (top 52) fd) (hs : s2 ≤ 5000) (hc : cs.length ≤ 1000) (hP : P.length ≤ 100)
    (hfe : ρ "feed" = some (.raw (.ref a))) (hpl : ρ "plan" = some (.raw (.ref p))) (hla : ρ "label" = some (.str x)) (hpa : ρ "parent" = some (.str pv)) (hpt : ρ "parts" = some (.tup (pts.map .str))) (hx : x ∉ P.map (·.name))
    (hN : ∀ (hol : Bool) (m : Str) (ρ' : Names), (pts ≠ [] → hol = false) → m ∈ marks → ρ' "feed" = some (.raw (.ref a)) → ρ' "plan" = some (.raw (.ref p)) → N ρ' [(a, O.dict (feedV cs (s2 + 2))), (p, O.dict (planV (P ++ [⟨x, pv, pts, hol, m⟩])))]) :
    Sx w H (n + 1) pk (fenv (top 53).2.2 L f q cd) ((loopOf (top 53).2.1[1]?).drop 3) ρ [(a, O.dict (feedV cs s2)), (p, O.dict (planV P))] N R := by
  refine Sx.cons (S1.assignG (Eg.mono (G' := fun d o => ∃ hol : Bool, d = .raw (.bool hol) ∧ o = [(a, O.dict (feedV cs (s2 + 1))), (p, O.dict (planV P))] ∧ (pts ≠ [] → hol = false)) ?_ (fun d o hd => ?_)) (.inl (by rfl)))
  · have dr : ∀ {p1 p2 p3 p4 : Pos}, Ev w H (n + 1) (fenv (top 53).2.2 L f q cd) ρ [(a, O.dict (feedV cs s2)), (p, O.dict (planV P))] (.Call (.Name "_law_draw" p1) [.Name "feed" p2, .Constant (.int 2) 0 p4] [] p3) (.int (drw cs s2 2)) [(a, O.dict (feedV cs (s2 + 1))), (p, O.dict (planV P))] := Ev.draw Gv Bl Hd (by decide) (by (first | assumption | exact Nat.le_of_ble_eq_true rfl | exact Nat.add_le_add_left (Nat.le_of_ble_eq_true rfl) _ | exact Nat.le_trans (by assumption) (Nat.le_of_ble_eq_true rfl) | lia | omega)) hc (by rfl) hfe Ev.constInt
    by_cases h1 : drw cs s2 2 = 1
    · exact Eg.of (Ev.andT (Ev.cast (Ev.cmp dr Ev.constInt Op2.eqInt) (by rw [h1]; rfl)) Tru.bool (Ev.cmp (Ev.name hpt) (Ev.tuple Es.nil) Op2.eqTupNil)) ⟨(pts.map V.str).isEmpty, rfl, rfl, fun h => by simpa using h⟩
    · exact Eg.of (Ev.andF (Ev.cast (Ev.cmp dr Ev.constInt Op2.eqInt) (by rw [show (drw cs s2 2 == 1) = false from beq_eq_false_iff_ne.mpr h1])) Tru.bool) ⟨false, rfl, rfl, fun _ => rfl⟩
  · obtain ⟨hol, rfl, rfl, hh⟩ := hd
    obtain ⟨m, hm, hmk⟩ := mark_at (drw_lo (cs := cs) (s := s2 + 1) (wide := 4) (by decide)) (drw_hi (by decide))
    refine Sx.cons (S1.setD (Eg.of (Ev.tuple (Es.cons (Ev.name (d := .str pv) hpa) (Es.cons (Ev.name (d := .tup (pts.map .str)) hpt) (Es.cons (Ev.name (d := .raw (.bool hol)) (by rfl)) (Es.cons (Ev.sub (Ev.list (Es.cons Ev.constStr (Es.cons Ev.constStr (Es.cons Ev.constStr (Es.cons Ev.constStr Es.nil))))) (Ev.draw (s := s2 + 1) Gv Bl Hd (by decide : (0 : Int) < 4) (by (first | assumption | exact Nat.le_of_ble_eq_true rfl | exact Nat.add_le_add_left (Nat.le_of_ble_eq_true rfl) _ | exact Nat.le_trans (by assumption) (Nat.le_of_ble_eq_true rfl) | lia | omega)) hc (by rfl) hfe Ev.constInt) (Op2.subLst .lst (drw_lo (by decide)) hmk (by have := drw_hi (cs := cs) (s := s2 + 1) (wide := 4) (by decide); (first | assumption | exact Nat.le_of_ble_eq_true rfl | exact Nat.add_le_add_left (Nat.le_of_ble_eq_true rfl) _ | exact Nat.le_trans (by assumption) (Nat.le_of_ble_eq_true rfl) | lia | omega)))) Es.nil)))))
      ⟨p, x, planV P, [(a, O.dict (feedV cs (s2 + 2)))], [], _, Ev.name hpl, Ev.name hla, by rw [planV, List.length_map]; (first | assumption | exact Nat.le_of_ble_eq_true rfl | exact Nat.add_le_add_left (Nat.le_of_ble_eq_true rfl) _ | exact Nat.le_trans (by assumption) (Nat.le_of_ble_eq_true rfl) | lia | omega), ?_⟩))
    rw [storedV_new (by simpa [planV] using hx)]
    refine Sx.nil ?_
    have := hN hol m (upd ρ "is_hollow" (.raw (.bool hol))) hh hm hfe hpl
    simpa [planV, Lab.v] using this

theorem Sx.abs (h : ∀ (N' : Names → Own → Prop) (R' : V → Own → Prop), (∀ ρ o, N ρ o → N' ρ o) → (∀ d o, R d o → R' d o) → Sx w H n pk env sts ρ own N' R') : Sx w H n pk env sts ρ own N R := h N R (fun _ _ h => h) fun _ _ h => h
theorem plan_bound {s s' i : Nat} (h : s' ≤ s + 1 + 7 * i) (hs : s ≤ 1000) (hi : i < 8) : s' ≤ 4000 := by (first | assumption | exact Nat.le_of_ble_eq_true rfl | exact Nat.add_le_add_left (Nat.le_of_ble_eq_true rfl) _ | exact Nat.le_trans (by assumption) (Nat.le_of_ble_eq_true rfl) | lia | omega)
theorem plan_next {s s' s2 i : Nat} (h : s' ≤ s + 1 + 7 * i) (h2 : s2 ≤ s' + 3) : s2 + 2 ≤ s + 1 + 7 * (i + 1) := by (first | assumption | exact Nat.le_of_ble_eq_true rfl | exact Nat.add_le_add_left (Nat.le_of_ble_eq_true rfl) _ | exact Nat.le_trans (by assumption) (Nat.le_of_ble_eq_true rfl) | lia | omega)
theorem plan_last {s s' k : Nat} (h : s' ≤ s + 1 + 7 * k) (hk : k ≤ 8) : s' ≤ s + 60 := by (first | assumption | exact Nat.le_of_ble_eq_true rfl | exact Nat.add_le_add_left (Nat.le_of_ble_eq_true rfl) _ | exact Nat.le_trans (by assumption) (Nat.le_of_ble_eq_true rfl) | lia | omega)
theorem letters_len {k : Nat} (h : k ≤ 8) : (letters.take k).length = k := by rw [List.length_take]; exact Nat.min_eq_left h
theorem lt_big {z : Int} {k : Nat} (h2 : z < k) (hk : k ≤ 8) : z < 2 ^ 62 := by (first | assumption | exact Nat.le_of_ble_eq_true rfl | exact Nat.add_le_add_left (Nat.le_of_ble_eq_true rfl) _ | exact Nat.le_trans (by assumption) (Nat.le_of_ble_eq_true rfl) | lia | omega)
theorem five_to {z : Int} (h1 : 0 ≤ z) (h2 : z < 4) : ((5 + z).toNat ≤ 8 ∧ 5 ≤ (5 + z).toNat) ∧ 5 ≤ 5 + z ∧ 5 + z ≤ 8 := by (first | assumption | exact Nat.le_of_ble_eq_true rfl | exact Nat.add_le_add_left (Nat.le_of_ble_eq_true rfl) _ | exact Nat.le_trans (by assumption) (Nat.le_of_ble_eq_true rfl) | lia | omega)
theorem one_to {z : Int} (h1 : 0 ≤ z) (h2 : z < 3) : 1 + z = ((1 + z).toNat : Int) ∧ (1 + z).toNat ≤ 10 := by (first | assumption | exact Nat.le_of_ble_eq_true rfl | exact Nat.add_le_add_left (Nat.le_of_ble_eq_true rfl) _ | exact Nat.le_trans (by assumption) (Nat.le_of_ble_eq_true rfl) | lia | omega)
noncomputable abbrev IPlan (a p : Addr) (cs : List Int) (s : Nat) : Nat → Names → Own → Prop := fun i ρ' own' => ∃ P s', Wf P ∧ P.map (·.name) = letters.take i ∧ s' ≤ s + 1 + 7 * i ∧ own' = [(a, O.dict (feedV cs s')), (p, O.dict (planV P))] ∧ ρ' "feed" = some (.raw (.ref a)) ∧ ρ' "plan" = some (.raw (.ref p))
noncomputable abbrev GPlan (a : Addr) (cs : List Int) (s : Nat) : V → Own → Prop := fun d o => ∃ P s', Wf P ∧ 5 ≤ P.length ∧ P.length ≤ 8 ∧ s' ≤ s + 60 ∧ d = .dct (planV P) ∧ o = [(a, .dict (feedV cs s'))]
theorem plan_fn {a f fd : Addr} {cs : List Int} {s : Nat} {mg mb : Str → Option Value} (Gv : Gl H mg mb) (Bl : Blts mg mb) (D : DefAt H f (top 53)) (Hd : Has H mg "_law_draw" (top 52) fd) (hs : s ≤ 1000) (hc : cs.length ≤ 1000) :
    Fr' w H (n + 2) (.ref f) [(a, .dict (feedV cs s))] [.raw (.ref a)] (GPlan a cs s) := by
  refine Fr'.enter Gv D P_plan rfl fun L q cd ok => ?_
  refine Sx.abs fun N R hN hR => ?_
  have b0 : s ≤ 100000 := Nat.le_trans hs (Nat.le_of_ble_eq_true rfl)
  refine Sx.cons (S1.assignG (Eg.dict Gv fun p hp1 hp2 => ?_) (.inr ⟨by rfl, by rfl⟩))
  refine Sx.perm (List.Perm.swap _ _ _) ?_
  have hk1 := drw_lo (cs := cs) (s := s) (wide := 4) (by decide)
  have hk2 := drw_hi (cs := cs) (s := s) (wide := 4) (by decide)
  have hds : signs (Txt.slice "ABCDEFGH" none (some (5 + drw cs s 4))) = (letters.take (5 + drw cs s 4).toNat).map .str := signs_letters (five_to hk1 hk2).2.1 (five_to hk1 hk2).2.2
  have hkn : (5 + drw cs s 4).toNat ≤ 8 ∧ 5 ≤ (5 + drw cs s 4).toNat := (five_to hk1 hk2).1
  clear hk1 hk2
  generalize (5 + drw cs s 4).toNat = k at hds hkn
  have hdl : ((letters.take k).map V.str).length = k := by rw [List.length_map, letters_len hkn.1]
  refine Sx.cons (S1.for (IPlan a p cs s)
    (Src.cast (Src.of (Ev.uptoS Ev.constStr (Ev.binop Ev.constInt (Ev.draw Gv Bl Hd (by decide : (0 : Int) < 4) (by first | exact b0 | exact Nat.le_trans b1 (Nat.le_of_ble_eq_true rfl)) hc (by rfl) (by rfl) Ev.constInt) Op2.addInt) (by (first | kernel_rfl | decide +kernel))) Itr.str (List.nil_sublist _)) hds) (.inl (by rfl)) ⟨[], s + 1, .nil, rfl, Nat.le_refl _, rfl, by rfl, by rfl⟩ ?_ ?_)
  · rintro i d hd ρ' own' ⟨P, s', hW, hn, hs', rfl, hfe, hpl⟩
    refine Sx.abs fun N' R' hN' hR' => ?_
    have hi : i < k := hdl ▸ (List.getElem?_eq_some_iff.mp hd).1
    have hi8 : i < 8 := Nat.lt_of_lt_of_le hi hkn.1
    have b1 : s' ≤ 4000 := plan_bound hs' hs hi8
    obtain ⟨x, hx, rfl⟩ : ∃ x, letters[i]? = some x ∧ d = .str x := by
      rw [List.getElem?_map, List.getElem?_take, if_pos hi] at hd
      obtain ⟨x, h1, h2⟩ := Option.map_eq_some_iff.mp hd
      exact ⟨x, h1, h2.symm⟩
    have hPl : P.length = i := (List.length_map _).symm.trans ((congrArg List.length hn).trans (letters_len (Nat.le_of_lt hi8)))
    have hP8 : P.length ≤ 8 := hPl ▸ Nat.le_of_lt hi8
    refine Sx.cons (S1.assignComp (F := [(p, .dict (planV P))]) (x := "one") (Src.of (Ev.name (d := .raw (.ref p)) hpl) (Itr.dct (.own (.head _))) (.cons _ (.refl _))) (.cons _ (.refl _)) (p := partsNil P) (f := id) (ρc := capρ [("plan", .dct (planV P))])
      ⟨CompOk.of (by (first | kernel_rfl | decide +kernel)), by rw [keys_plan, List.length_map]; exact Nat.le_trans hP8 (Nat.le_of_ble_eq_true rfl), CapL.cap (.cons (by (first | kernel_rfl | decide +kernel)) (by rfl) hpl (Fzd.dct (.own (.head _))) .nil), .inr (fun d hd => ?_), fun C okc d hd => ?_, fun C okc d hd _ => ?_⟩ (.inl (by rfl)) ?_)
    · rw [keys_plan, List.map_id] at hd
      obtain ⟨l, _, rfl, _⟩ := elder_mem hd
      rfl
    · rw [keys_plan] at hd
      obtain ⟨l, hl, rfl⟩ := List.mem_map.mp hd
      obtain ⟨l', h1, h2, h3⟩ := find_mem hl
      have e : partsNil P (.str l.name) = (l'.parts.map V.str).isEmpty := by simp [partsNil, h1]
      rw [e]
      exact Tst.one (Te.cmp (Ev.sub (Ev.sub (Ev.name (d := .dct (planV P)) (by rfl)) (Ev.name (d := .str l.name) (by rfl)) (Op2.subDct .dct (by rw [lookV_plan, h1]; rfl))) Ev.constInt (Op2.subTup (by decide) (by rfl))) (Ev.tuple Es.nil) Op2.eqTupNil)
    · exact Ev.name (by rfl)
    rw [show ((planV P).map fun p => V.str p.1).filter (partsNil P) = elderV P by rw [keys_plan]; rfl, List.map_id]
    have hel : (elderV P).length ≤ 8 := Nat.le_trans (List.length_filter_le _ _) (by rw [List.length_map]; exact hP8)
    refine Sx.cons (S1.tupS (names := ["way", "parent", "parts"]) (Eg.tuple (Egs.cons (Eg.mono (G' := fun d o => ∃ (wv : Int) (s1 : Nat), d = .int wv ∧ o = [(a, O.dict (feedV cs s1)), (p, O.dict (planV P))] ∧ 0 ≤ wv ∧ wv < 4 ∧ (wv ≠ 0 → elderV P ≠ []) ∧ s1 ≤ s' + 1) ?_ (fun d o hd => ?_)))) (st3 (.inl (by rfl)) (.inl (by rfl)) (.inl (by rfl))))
    · by_cases he : elderV P = []
      · exact Eg.of (Ev.ifT (Te.cast (Te.cmp (Ev.name (by rfl)) (Ev.list Es.nil) (Op2.eqLstNil .lst)) (by rw [he]; rfl)) Ev.constInt) ⟨0, s', rfl, rfl, Int.le_refl _, by decide, fun h => absurd rfl h, Nat.le_succ _⟩
      · exact Eg.of (Ev.ifF (Te.cast (Te.cmp (Ev.name (by rfl)) (Ev.list Es.nil) (Op2.eqLstNil .lst)) (by simpa using he)) (Ev.draw Gv Bl Hd (by decide : (0 : Int) < 4) (by first | exact b0 | exact Nat.le_trans b1 (Nat.le_of_ble_eq_true rfl)) hc (by rfl) hfe Ev.constInt)) ⟨_, s' + 1, rfl, rfl, drw_lo (by decide), drw_hi (by decide), fun _ => he, Nat.le_refl _⟩
    · obtain ⟨wv, s1, rfl, rfl, hw1, hw2, hw3, hs1⟩ := hd
      have b2 : s1 ≤ 4001 := Nat.le_trans hs1 (Nat.succ_le_succ b1)
      have b3 : s1 + 1 ≤ 4002 := Nat.succ_le_succ b2
      refine Egs.cons (Eg.of Ev.constStr (Egs.cons (Eg.of (Ev.tuple Es.nil) (Egs.nil ⟨by simp, _, rfl, rfl, ?_⟩))))
      have hxP : x ∉ P.map (·.name) := by
        rw [hn]
        exact letter_new hx hi8
      have hx0 : x ≠ ("" : Str) := letter_ne hx
      have fin : ∀ (pv : Str) (pts : List Str) (s2 : Nat) (ρ2 : Names), s2 ≤ s' + 3 → ρ2 "feed" = some (.raw (.ref a)) → ρ2 "plan" = some (.raw (.ref p)) → ρ2 "label" = some (.str x) → ρ2 "parent" = some (.str pv) → ρ2 "parts" = some (.tup (pts.map .str)) →
          (pv = ("" : Str) ∨ ∃ k ∈ P, k.name = pv ∧ k.parts = []) → (∀ y ∈ pts, y ∈ P.map (·.name)) → (pts ≠ [] → pv = ("" : Str)) → pts.length ≤ 10 →
          Sx w H (n + 1) [a] (fenv (top 53).2.2 L f q cd) ((loopOf (top 53).2.1[1]?).drop 3) ρ2 [(a, O.dict (feedV cs s2)), (p, O.dict (planV P))] N' R' := by
        intro pv pts s2 ρ2 hs2 h1 h2 h3 h4 h5 g1 g2 g3 g4
        refine plan_tail Gv Bl Hd (Nat.le_trans hs2 (Nat.le_trans (Nat.add_le_add_right b1 3) (Nat.le_of_ble_eq_true rfl))) hc (Nat.le_trans hP8 (Nat.le_of_ble_eq_true rfl)) h1 h2 h3 h4 h5 hxP fun hol m ρ' hh hm h6 h7 => hN' _ _ ⟨P ++ [⟨x, pv, pts, hol, m⟩], s2 + 2, .snoc hW hxP hx0 g1 g2 (fun h => ⟨g3 h, hh h⟩) hm g4, ?_, plan_next hs' hs2, rfl, h6, h7⟩
        rw [List.map_append, hn, List.take_add_one, hx]; rfl
      refine Sx.cons (S1.ite (q := [1, 2].contains wv) (Te.cmp (Ev.name (d := .int wv) (by rfl)) (Ev.tuple (Es.cons Ev.constInt (Es.cons Ev.constInt Es.nil))) (Op2.inTupInt (xs := [1, 2]))) ?_)
      by_cases h12 : [1, 2].contains wv = true
      · rw [h12]
        have hne : elderV P ≠ [] := hw3 fun h => by rw [h] at h12; revert h12; decide
        have hlen : 0 < (elderV P).length := List.length_pos_iff.mpr hne
        have d1 := drw_lo (cs := cs) (s := s1) (wide := ((elderV P).length : Int)) (Int.natCast_pos.mpr hlen)
        have d2 := drw_hi (cs := cs) (s := s1) (wide := ((elderV P).length : Int)) (Int.natCast_pos.mpr hlen)
        have hj : (drw cs s1 ((elderV P).length : Int)).toNat < (elderV P).length := toNat_small d1 d2
        obtain ⟨l, hl, hle, hlp⟩ := elder_mem (List.getElem_mem hj)
        refine Sx.cons (S1.assign (d := .str l.name) (Ev.sub (Ev.name (d := .lst (elderV P)) (by rfl)) (Ev.draw Gv Bl Hd (wide := ((elderV P).length : Int)) (Int.natCast_pos.mpr hlen) (Nat.le_trans b2 (Nat.le_of_ble_eq_true rfl)) hc (by rfl) hfe
          (Ev.call (o₁ := []) (o₂ := []) (r := [(a, O.dict (feedV cs s1)), (p, O.dict (planV P))]) (Ev.blt Gv (by rfl) Bl.len.1 Bl.len.2) (Es.cons (Ev.name (d := .lst (elderV P)) (by rfl)) Es.nil) (.builtin _) (Fn.lenL .lst (Nat.le_trans hel (Nat.le_of_ble_eq_true rfl)))))
          (Op2.subLst .lst d1 (by rw [List.getElem?_eq_getElem hj, hle]) (lt_big d2 hel))) (.inl (by rfl)) (Sx.nil ?_))
        exact fin l.name [] (s1 + 1) _ (Nat.le_trans (Nat.succ_le_succ hs1) (Nat.le_succ _)) hfe hpl (by rfl) (by rfl) (by rfl) (.inr ⟨l, hl, rfl, hlp⟩) (fun _ h => nomatch h) (fun h => absurd rfl h) (Nat.zero_le _)
      · rw [Bool.not_eq_true] at h12
        rw [h12]
        refine Sx.cons (S1.ite (q := wv == 3) (Te.cmp (Ev.name (d := .int wv) (by rfl)) Ev.constInt Op2.eqInt) ?_)
        by_cases h3 : (wv == 3) = true
        · rw [h3]
          have hne : elderV P ≠ [] := hw3 fun h => by rw [h] at h3; revert h3; decide
          have hPp : 0 < P.length := by
            rcases Nat.eq_zero_or_pos P.length with h0 | h0
            · exact absurd (by rw [elderV, List.length_eq_zero_iff.mp h0]; rfl) hne
            · exact h0
          have hpl2 : (planV P).length = P.length := by rw [planV, List.length_map]
          have hpl3 : (planV P).length ≤ 100000 := by rw [hpl2]; exact Nat.le_trans hP8 (Nat.le_of_ble_eq_true rfl)
          have d1 := drw_lo (cs := cs) (s := s1) (wide := (P.length : Int)) (Int.natCast_pos.mpr hPp)
          have e1 : drw cs s1 (P.length : Int) = ((drw cs s1 (P.length : Int)).toNat : Int) := (Int.toNat_of_nonneg d1).symm
          have d3 := drw_lo (cs := cs) (s := s1 + 1) (wide := 3) (by decide)
          have e4 := one_to d3 (drw_hi (cs := cs) (s := s1 + 1) (wide := 3) (by decide))
          have e3 := e4.1
          have hrow : (planV P).map (fun p => V.str p.1) = (P.map (·.name)).map V.str := by simp [planV, Function.comp_def]
          have hownp : AsD [(a, O.dict (feedV cs s1)), (p, O.dict (planV P))] (.raw (.ref p)) (planV P) := .own (.tail _ (.head _))
          refine Sx.cons (S1.tupS (names := ["row", "spot"]) (Eg.tuple (Egs.cons (Eg.of (Ev.call (o₁ := [(a, O.dict (feedV cs s1)), (p, O.dict (planV P))]) (o₂ := [(a, O.dict (feedV cs s1)), (p, O.dict (planV P))]) (o₃ := [(a, O.dict (feedV cs s1)), (p, O.dict (planV P))]) (r := []) (Ev.blt Gv (by rfl) Bl.list.1 Bl.list.2) (Es.cons (Ev.name hpl) Es.nil) (.type _) (Fn.cast (Fn.listD hownp hpl3) (by rw [hrow]))) ?_)))
            (st2 (.inl (by rfl)) (.inl (by rfl))))
          refine Egs.cons (Eg.of (Ev.cast (Ev.draw Gv Bl Hd (wide := (P.length : Int)) (Int.natCast_pos.mpr hPp) (Nat.le_trans b2 (Nat.le_of_ble_eq_true rfl)) hc (by rfl) hfe
            (Ev.call (o₁ := [(a, O.dict (feedV cs s1)), (p, O.dict (planV P))]) (o₂ := [(a, O.dict (feedV cs s1)), (p, O.dict (planV P))]) (o₃ := [(a, O.dict (feedV cs s1)), (p, O.dict (planV P))]) (r := []) (Ev.blt Gv (by rfl) Bl.len.1 Bl.len.2) (Es.cons (Ev.name hpl) Es.nil) (.builtin _) (Fn.cast (Fn.lenD hownp hpl3) (by rw [hpl2])))) (by rw [e1])) (Egs.nil ⟨by simp, _, rfl, rfl, ?_⟩))
          generalize (drw cs s1 (P.length : Int)).toNat = kk
          generalize (1 + drw cs (s1 + 1) 3).toNat = jj at e3 e4
          have hnl : ((P.map (·.name)).map V.str).length ≤ 8 := by rw [List.length_map, List.length_map]; exact hP8
          have hnl' : ((P.map (·.name)).map V.str).length ≤ 100000 := Nat.le_trans hnl (Nat.le_of_ble_eq_true rfl)
          have hdt : ((((P.map (·.name)).map V.str).drop kk) ++ (((P.map (·.name)).map V.str).take kk)).length ≤ 16 := by rw [List.length_append, List.length_drop, List.length_take]; exact Nat.add_le_add (Nat.le_trans (Nat.sub_le _ _) hnl) (Nat.le_trans (Nat.min_le_right _ _) hnl)
          refine Sx.cons (S1.assign (d := .tup (((((P.map (·.name)).drop kk) ++ ((P.map (·.name)).take kk)).take jj).map V.str)) (Ev.cast (Ev.call (o₁ := [(a, O.dict (feedV cs (s1 + 1))), (p, O.dict (planV P))]) (o₂ := [(a, O.dict (feedV cs (s1 + 1 + 1))), (p, O.dict (planV P))]) (o₃ := [(a, O.dict (feedV cs (s1 + 1 + 1))), (p, O.dict (planV P))]) (r := []) (Ev.blt Gv (by rfl) Bl.tuple.1 Bl.tuple.2) (Es.cons (Ev.upto (k := jj) (Ev.binop (Ev.from (d := .lst ((P.map (·.name)).map V.str)) (k := kk) (Ev.name (by rfl)) (Ev.name (by rfl)) .lst hnl') (Ev.upto (d := .lst ((P.map (·.name)).map V.str)) (k := kk) (Ev.name (by rfl)) (Ev.name (by rfl)) .lst hnl') (Op2.addLst .lst .lst (by rw [← List.length_append]; exact Nat.le_trans hdt (Nat.le_of_ble_eq_true rfl))))
            (Ev.cast (Ev.binop Ev.constInt (Ev.draw (s := s1 + 1) Gv Bl Hd (by decide : (0 : Int) < 3) (Nat.le_trans b3 (Nat.le_of_ble_eq_true rfl)) hc (by rfl) hfe Ev.constInt) Op2.addInt) (by rw [e3])) .lst (Nat.le_trans hdt (Nat.le_of_ble_eq_true rfl))) Es.nil) (.type _) (Fn.tupleL .lst (by rw [List.length_take]; exact Nat.le_trans (Nat.le_trans (Nat.min_le_right _ _) hdt) (Nat.le_of_ble_eq_true rfl)))) (by simp [List.map_take, List.map_drop])) (.inl (by rfl)) (Sx.nil (Sx.nil ?_)))
          refine fin "" (((P.map (·.name)).drop kk ++ (P.map (·.name)).take kk).take jj) (s1 + 1 + 1) _ (Nat.succ_le_succ (Nat.succ_le_succ hs1)) hfe hpl (by rfl) (by rfl) (by rfl) (.inl rfl) (fun y hy => ?_) (fun _ => rfl) (by rw [List.length_take]; exact Nat.le_trans (Nat.min_le_left _ _) e4.2)
          rcases List.mem_append.mp (List.mem_of_mem_take hy) with h | h
          · exact List.mem_of_mem_drop h
          · exact List.mem_of_mem_take h
        · rw [Bool.not_eq_true] at h3
          rw [h3]
          exact Sx.nil (Sx.nil (fin "" [] s1 _ (Nat.le_trans hs1 (Nat.add_le_add_left (Nat.le_of_ble_eq_true rfl) _)) hfe hpl (by rfl) (by rfl) (by rfl) (.inl rfl) (fun _ h => nomatch h) (fun h => absurd rfl h) (Nat.zero_le _)))
  · rintro ρ' own' ⟨P, s', hW, hn, hs', rfl, hfe, hpl⟩
    rw [hdl] at hn hs'
    have hPl : P.length = k := (List.length_map _).symm.trans ((congrArg List.length hn).trans (letters_len hkn.1))
    refine Sx.perm (List.Perm.swap _ _ _) (Sx.cons (S1.retD (Ev.name hpl) hp1 (hR _ _ ⟨[(a, .dict (feedV cs s'))], [], rfl, rfl, P, s', hW, hPl ▸ hkn.2, hPl ▸ hkn.1, plan_last hs' hkn.1, rfl, rfl⟩)))
end
end Mine
end
section
open PySem PySem.W PyProof.Rows PySem.MeetsSeq PySem.SeqAt
set_option maxRecDepth 100000
namespace Mine

noncomputable abbrev names (P : List Lab) : List Str := P.map (·.name)
noncomputable def rk (P : List Lab) (x : Str) : Nat := (names P).findIdx fun y => y == x
theorem rk_lt {P : List Lab} {x : Str} (h : x ∈ names P) : rk P x < P.length := by
  have := List.findIdx_lt_length_of_exists (xs := names P) (p := fun y => y == x) ⟨x, h, by simp⟩
  simpa [rk] using this
theorem rk_app {P : List Lab} {l : Lab} {x : Str} (h : x ∈ names P) : rk (P ++ [l]) x = rk P x := by
  unfold rk names
  rw [List.map_append, List.findIdx_append, if_pos (by have := rk_lt h; simpa [rk] using this)]
theorem rk_new {P : List Lab} {l : Lab} (h : l.name ∉ names P) : rk (P ++ [l]) l.name = P.length := by
  unfold rk names
  rw [List.map_append, List.findIdx_append, if_neg]
  · simp
  · intro hlt
    have hlt' : (names P).findIdx (fun y => y == l.name) < (names P).length := hlt
    have := List.findIdx_getElem (w := hlt')
    have e : (names P)[(names P).findIdx (fun y => y == l.name)] = l.name := by simpa using this
    exact h (e ▸ List.getElem_mem _)

theorem Wf.nodup {P : List Lab} (h : Wf P) : (names P).Nodup := by
  induction h with
  | nil => exact List.nodup_nil
  | snoc _ h1 _ _ _ _ _ _ ih =>
    rw [names, List.map_append, List.nodup_append]
    refine ⟨ih, by simp, ?_⟩
    intro x hx y hy e
    simp at hy
    exact h1 (hy ▸ e ▸ hx)
theorem Wf.ne {P : List Lab} (h : Wf P) : ∀ l ∈ P, l.name ≠ ("" : Str) := by
  induction h with
  | nil => intro l h; cases h
  | snoc _ _ h2 _ _ _ _ _ ih =>
    intro l hl
    rcases List.mem_append.mp hl with h | h
    · exact ih l h
    · rw [List.mem_singleton.mp h]; exact h2
theorem Wf.mark {P : List Lab} (h : Wf P) : ∀ l ∈ P, l.mark ∈ marks := by
  induction h with
  | nil => intro l h; cases h
  | snoc _ _ _ _ _ _ h6 _ ih =>
    intro l hl
    rcases List.mem_append.mp hl with h | h
    · exact ih l h
    · rw [List.mem_singleton.mp h]; exact h6
theorem Wf.parts_len {P : List Lab} (h : Wf P) : ∀ l ∈ P, l.parts.length ≤ 10 := by
  induction h with
  | nil => intro l h; cases h
  | snoc _ _ _ _ _ _ _ h7 ih =>
    intro l hl
    rcases List.mem_append.mp hl with h | h
    · exact ih l h
    · rw [List.mem_singleton.mp h]; exact h7
theorem Wf.apart {P : List Lab} (h : Wf P) : ∀ l ∈ P, l.parts ≠ [] → l.parent = ("" : Str) ∧ l.hollow = false := by
  induction h with
  | nil => intro l h; cases h
  | snoc _ _ _ _ _ h5 _ _ ih =>
    intro l hl
    rcases List.mem_append.mp hl with h | h
    · exact ih l h
    · rw [List.mem_singleton.mp h]; exact h5
theorem Wf.parent {P : List Lab} (h : Wf P) : ∀ l ∈ P, l.parent = ("" : Str) ∨ ∃ k ∈ P, k.name = l.parent ∧ k.parts = [] ∧ rk P k.name < rk P l.name := by
  induction h with
  | nil => intro l h; cases h
  | @snoc P l _ h1 _ h3 _ _ _ _ ih =>
    intro m hm
    rcases List.mem_append.mp hm with h | h
    · rcases ih m h with e | ⟨k, hk, e1, e2, e3⟩
      · exact .inl e
      · exact .inr ⟨k, List.mem_append_left _ hk, e1, e2, by rw [rk_app (List.mem_map_of_mem hk), rk_app (List.mem_map_of_mem h)]; exact e3⟩
    · rw [List.mem_singleton.mp h]
      rcases h3 with e | ⟨k, hk, e1, e2⟩
      · exact .inl e
      · exact .inr ⟨k, List.mem_append_left _ hk, e1, e2, by rw [rk_app (List.mem_map_of_mem hk), rk_new h1]; exact rk_lt (List.mem_map_of_mem hk)⟩
theorem Wf.parts {P : List Lab} (h : Wf P) : ∀ l ∈ P, ∀ y ∈ l.parts, ∃ k ∈ P, k.name = y ∧ rk P y < rk P l.name := by
  induction h with
  | nil => intro l h; cases h
  | @snoc P l _ h1 _ _ h4 _ _ _ ih =>
    intro m hm y hy
    rcases List.mem_append.mp hm with h | h
    · obtain ⟨k, hk, e1, e2⟩ := ih m h y hy
      exact ⟨k, List.mem_append_left _ hk, e1, by rw [← e1, rk_app (List.mem_map_of_mem hk), rk_app (List.mem_map_of_mem h), e1]; exact e2⟩
    · rw [List.mem_singleton.mp h] at hy ⊢
      obtain ⟨k, hk, e1⟩ := List.mem_map.mp (h4 y hy)
      exact ⟨k, List.mem_append_left _ hk, e1, by rw [← e1, rk_app (List.mem_map_of_mem hk), rk_new h1]; exact rk_lt (List.mem_map_of_mem hk)⟩
theorem findL_of {P : List Lab} (hn : (names P).Nodup) : ∀ {l : Lab}, l ∈ P → findL P l.name = some l := by
  induction P with
  | nil => intro l h; cases h
  | cons k P ih =>
    intro l h
    simp only [names, List.map_cons, List.nodup_cons] at hn
    unfold findL
    rw [List.find?_cons]
    rcases List.mem_cons.mp h with rfl | h
    · simp
    · have hne : k.name ≠ l.name := fun e => hn.1 (e ▸ List.mem_map_of_mem h)
      simp only [hne, decide_false]
      exact ih hn.2 h
theorem Wf.find {P : List Lab} (h : Wf P) {l : Lab} (hl : l ∈ P) : findL P l.name = some l := findL_of h.nodup hl
theorem Wf.look {P : List Lab} (h : Wf P) {l : Lab} (hl : l ∈ P) : lookV (planV P) l.name = some l.v := by rw [lookV_plan, h.find hl]; rfl
/-- those that extend x -/
noncomputable def below (P : List Lab) (x : Str) : List Str := (P.filter fun l => l.parent == x).map (·.name)
theorem below_eq {P : List Lab} (h : Wf P) (x : Str) : (P.map fun l => V.str l.name).filter (parentIs P x) = (below P x).map .str := by
  have key : ∀ Q : List Lab, (∀ l ∈ Q, l ∈ P) → (Q.map fun l => V.str l.name).filter (parentIs P x) = ((Q.filter fun l => l.parent == x).map (·.name)).map .str := fun Q => by
    induction Q with
    | nil => intro _; rfl
    | cons l Q ih =>
      intro hQ
      have ih := ih fun k hk => hQ k (.tail _ hk)
      have e : parentIs P x (.str l.name) = (l.parent == x) := by simp [parentIs, h.find (hQ l (.head _))]
      rw [List.map_cons, List.filter_cons, e, List.filter_cons]
      split <;> simp [ih]
  exact key P fun _ h => h
theorem mem_below {P : List Lab} {x y : Str} : y ∈ below P x ↔ ∃ l ∈ P, l.name = y ∧ l.parent = x := by
  unfold below
  rw [List.mem_map]
  constructor
  · rintro ⟨l, hl, e⟩
    obtain ⟨h1, h2⟩ := List.mem_filter.mp hl
    exact ⟨l, h1, e, by simpa using h2⟩
  · rintro ⟨l, hl, e, e2⟩
    exact ⟨l, List.mem_filter.mpr ⟨hl, by simpa using e2⟩, e⟩
/-- those that are no part of others -/
noncomputable def tall (P : List Lab) : List Str := (P.filter fun l => l.parts.isEmpty).map (·.name)
theorem tall_eq {P : List Lab} (h : Wf P) : elderV P = (tall P).map .str := by
  have key : ∀ Q : List Lab, (∀ l ∈ Q, l ∈ P) → (Q.map fun l => V.str l.name).filter (partsNil P) = ((Q.filter fun l => l.parts.isEmpty).map (·.name)).map .str := fun Q => by
    induction Q with
    | nil => intro _; rfl
    | cons l Q ih =>
      intro hQ
      have ih := ih fun k hk => hQ k (.tail _ hk)
      have e : partsNil P (.str l.name) = l.parts.isEmpty := by simp [partsNil, h.find (hQ l (.head _))]
      rw [List.map_cons, List.filter_cons, e, List.filter_cons]
      split <;> simp [ih]
  exact key P fun _ h => h
/-- the first one is tall -/
theorem Wf.tall_ne {P : List Lab} (h : Wf P) (hp : 0 < P.length) : tall P ≠ [] := by
  induction h with
  | nil => simp at hp
  | @snoc P l h0 _ _ _ h4 _ _ _ ih =>
    rcases Nat.eq_zero_or_pos P.length with e | e
    · have : P = [] := List.length_eq_zero_iff.mp e
      subst this
      have hl : l.parts = [] := by
        cases hq : l.parts with
        | nil => rfl
        | cons y r => have := h4 y (by rw [hq]; exact .head _); simp at this
      simp [tall, hl]
    · intro h
      have := ih e
      simp [tall] at h this
      obtain ⟨x, hx, e'⟩ := this
      exact h.1 x hx e'
end Mine
end
section
open PySem PySem.W PyProof.Rows PySem.MeetsSeq PySem.SeqAt
set_option maxRecDepth 100000
namespace Mine

noncomputable abbrev HL := List (Str × Addr × List Int)
noncomputable def hasK (hs : HL) : List (Str × V) := hs.map fun h => (h.1, .raw (.ref h.2.1))
noncomputable def hasO (hs : HL) : Own := hs.map fun h => (h.2.1, .list (h.2.2.map .int))
structure HsOk (P : List Lab) (hs : HL) (B : Str → Nat) : Prop where
  keys : hs.map (·.1) = names P
  vals : ∀ h ∈ hs, h.2.2.length ≤ B h.1 ∧ ∀ z ∈ h.2.2, 0 ≤ z ∧ z < 4
theorem HsOk.le {P : List Lab} {hs : HL} {B C : Str → Nat} (h : HsOk P hs B) (l : ∀ y, B y ≤ C y) : HsOk P hs C := ⟨h.keys, fun x hx => ⟨Nat.le_trans (h.vals x hx).1 (l _), (h.vals x hx).2⟩⟩
theorem has_split {hs : HL} {x : Str} (hx : x ∈ hs.map (·.1)) : ∃ hs1 c xs hs2, hs = hs1 ++ (x, c, xs) :: hs2 ∧ x ∉ hs1.map (·.1) := by
  induction hs with
  | nil => simp at hx
  | cons h hs ih =>
    by_cases e : h.1 = x
    · exact ⟨[], h.2.1, h.2.2, hs, by rw [← e]; rfl, by simp⟩
    · have : x ∈ hs.map (·.1) := by
        rcases List.mem_cons.mp hx with h' | h'
        · exact absurd h'.symm e
        · exact h'
      obtain ⟨hs1, c, xs, hs2, e1, e2⟩ := ih this
      exact ⟨h :: hs1, c, xs, hs2, by rw [e1]; rfl, by simp only [List.map_cons, List.mem_cons, not_or]; exact ⟨fun e' => e e'.symm, e2⟩⟩
theorem look_has {hs1 hs2 : HL} {x : Str} {c : Addr} {xs : List Int} (h : x ∉ hs1.map (·.1)) : lookV (hasK (hs1 ++ (x, c, xs) :: hs2)) x = some (.raw (.ref c)) := by
  unfold lookV hasK
  rw [List.map_append, List.find?_append, List.find?_eq_none.mpr]
  · simp
  · intro p hp
    obtain ⟨q, hq, rfl⟩ := List.mem_map.mp hp
    simp only [decide_eq_true_eq]
    exact fun e => h (e ▸ List.mem_map_of_mem hq)
theorem HsOk.app {P : List Lab} {hs1 hs2 : HL} {x : Str} {c : Addr} {xs : List Int} {B : Str → Nat} {z : Int} (h : HsOk P (hs1 ++ (x, c, xs) :: hs2) B) (h0 : 0 ≤ z) (h4 : z < 4) : HsOk P (hs1 ++ (x, c, xs ++ [z]) :: hs2) (fun y => if y = x then B y + 1 else B y) := by
  have up : ∀ y : Str, B y ≤ (if y = x then B y + 1 else B y) := fun y => by split <;> (first | assumption | exact Nat.le_of_ble_eq_true rfl | exact Nat.add_le_add_left (Nat.le_of_ble_eq_true rfl) _ | exact Nat.le_trans (by assumption) (Nat.le_of_ble_eq_true rfl) | lia | omega)
  refine ⟨by rw [← h.keys]; simp, fun y hy => ?_⟩
  rcases List.mem_append.mp hy with h1 | h1
  · have := h.vals y (List.mem_append_left _ h1); exact ⟨Nat.le_trans this.1 (up _), this.2⟩
  · rcases List.mem_cons.mp h1 with rfl | h1
    · have := h.vals (x, c, xs) (List.mem_append_right _ (.head _))
      refine ⟨by have h9 : xs.length ≤ B x := this.1; show (xs ++ [z]).length ≤ (if x = x then B x + 1 else B x); simp; exact h9, fun y hy => ?_⟩
      rcases List.mem_append.mp hy with h2 | h2
      · exact this.2 y h2
      · rw [List.mem_singleton.mp h2]; exact ⟨h0, h4⟩
    · have := h.vals y (List.mem_append_right _ (.tail _ h1)); exact ⟨Nat.le_trans this.1 (up _), this.2⟩
theorem hasK_app {hs1 hs2 : HL} {x : Str} {c : Addr} {xs ys : List Int} : hasK (hs1 ++ (x, c, ys) :: hs2) = hasK (hs1 ++ (x, c, xs) :: hs2) := by simp [hasK]

section
variable {w : World} {H Z : Heap} {n : Nat} {pk : List Addr} {env : Env} {ρ ρc : Names} {o₀ o₁ o₂ o₃ own own₁ own₂ F : Own} {N : Names → Own → Prop} {R : V → Own → Prop} {sts : List Stmt} {st : Stmt}

theorem Ev.below {a : Addr} {P : List Lab} {x : Str} {mg mb : Str → Option Value} {p1 p2 p3 p4 : Pos} (Gv : Gl H mg mb) (Hb : Has H mg "_law_below" (top 54) a) (hW : Wf P) (hP : P.length ≤ 100)
    (hk : env.kindOf "_law_below" = some .globalImplicit) (hp : ρ "plan" = some (.dct (planV P))) (hl : ρ "label" = some (.str x))
    (hes : ∀ pos, backTo pos (starEach [.Name "plan" p2, .Name "label" p4] env) = (false, eval (.Name "plan" p2) env) :: backTo pos (starEach [.Name "label" p4] env) := by intro _; rfl)
    (hes' : ∀ pos, backTo pos (starEach [.Name "label" p4] env) = (false, eval (.Name "label" p4) env) :: backTo pos (starEach [] env) := by intro _; rfl)
    (hpp : ∀ pos, (backTo pos (starEach [.Name "plan" p2, .Name "label" p4] env)).any (·.1) = false := by intro _; rfl) :
    Ev w H (n + 1) env ρ own (.Call (.Name "_law_below" p1) [.Name "plan" p2, .Name "label" p4] [] p3) (.lst ((below P x).map .str)) own :=
  Ev.call (o₁ := []) (o₂ := []) (o₃ := []) (r := own) (Ev.glob Gv hk Hb.nm) (Es.cons (Ev.name hp) (Es.cons (Ev.name hl) Es.nil hes') hes) Hb.kind (Fn.cast (below_fn Gv Hb.at_ hP) (by rw [below_eq hW])) hpp

/-- of the frame of _law_world -/
structure Wr (ρ : Names) (a h : Addr) (P : List Lab) : Prop where
  feed : ρ "feed" = some (.raw (.ref a))
  plan : ρ "plan" = some (.dct (planV P))
  has : ρ "has" = some (.raw (.ref h))
  tall : ρ "tall" = some (.lst ((tall P).map .str))
noncomputable def wOwn (a h : Addr) (cs : List Int) (s : Nat) (hs : HL) : Own := (a, .dict (feedV cs s)) :: (h, .dict (hasK hs)) :: hasO hs

noncomputable def bodyOf : Option Stmt → List Stmt
  | some (.For _ _ b _ _) => b
  | some (.While _ b _ _) => b
  | _ => []
noncomputable def testOf : Option Stmt → Expr
  | some (.While t _ _ _) => t
  | some (.If t _ _ _) => t
  | _ => .Constant .none 0 ⟨0, 0, 0, 0⟩
noncomputable abbrev wEnv (L f : Addr) (q : Str) (cd : Value) : Env := fenv (top 55).2.2 L f q cd

noncomputable abbrev IDown (a h : Addr) (P : List Lab) (t : Int) (cs : List Int) (s : Nat) (hs : HL) : Nat → Names → Own → Prop := fun k ρ' own' => ∃ l s', Wr ρ' a h P ∧ ρ' "atom" = some (.int t) ∧ l ∈ P ∧ ρ' "label" = some (.str l.name) ∧ own' = wOwn a h cs s' hs ∧ k = P.length - rk P l.name ∧ s' + k ≤ s + 8
/-- down to one that is not abstract, or has none below -/
theorem world_down {a h f fd fb L : Addr} {q : Str} {cd : Value} {cs : List Int} {P : List Lab} {s : Nat} {l₀ : Lab} {hs : HL} {t : Int} {mg mb : Str → Option Value} (Gv : Gl H mg mb) (Bl : Blts mg mb) (Hd : Has H mg "_law_draw" (top 52) fd) (Hb : Has H mg "_law_below" (top 54) fb) (hW : Wf P) (hP : P.length ≤ 8) (hs0 : s ≤ 5000) (hc : cs.length ≤ 1000)
    (hr : Wr ρ a h P) (hla : ρ "label" = some (.str l₀.name)) (hl₀ : l₀ ∈ P) (hat : ρ "atom" = some (.int t))
    (hN : ∀ ρ' l s', Wr ρ' a h P → ρ' "atom" = some (.int t) → l ∈ P → ρ' "label" = some (.str l.name) → s' ≤ s + 8 → Sx w H (n + 2) pk (wEnv L f q cd) sts ρ' (wOwn a h cs s' hs) N R) :
    ∀ st, (bodyOf (top 55).2.1[2]?)[1]? = some st → Sx w H (n + 2) pk (wEnv L f q cd) (st :: sts) ρ (wOwn a h cs s hs) N R := by
  intro st hst
  cases hst
  refine Sx.cons (S1.while (IDown a h P t cs s hs) (P.length - rk P l₀.name)
    ⟨l₀, s, hr, hat, hl₀, hla, rfl, rfl, Nat.add_le_add_left (Nat.le_trans (Nat.sub_le _ _) hP) s⟩ ?_)
  rintro k ρ' own' ⟨l, s', hr', hat', hl, hla', rfl, hk, hsk⟩
  have b0 : s' ≤ s + 8 := Nat.le_of_add_right_le hsk
  have b1 : s' ≤ 5008 := Nat.le_trans b0 (Nat.add_le_add_right hs0 8)
  have hlk := rk_lt (List.mem_map_of_mem (f := (·.name)) hl)
  have hbl : (below P l.name).length ≤ 8 := by unfold below; rw [List.length_map]; exact Nat.le_trans (List.length_filter_le _ _) hP
  have hlv : ∀ {p1 p2 p3 p4 p5 : Pos}, Ev w H (n + 2) (wEnv L f q cd) ρ' (wOwn a h cs s' hs) (.Subscript (.Subscript (.Name "plan" p1) (.Name "label" p2) p3) (.Constant (.int 2) 0 p4) p5) (.raw (.bool l.hollow)) (wOwn a h cs s' hs) :=
    Ev.sub (Ev.sub (Ev.name hr'.plan) (Ev.name hla') (Op2.subDct .dct (hW.look hl))) Ev.constInt (Op2.subTup (by decide) (by rfl))
  have tst : Te w H (n + 2) (wEnv L f q cd) ρ' (wOwn a h cs s' hs) (testOf (bodyOf (top 55).2.1[2]?)[1]?) (l.hollow && !(below P l.name).isEmpty) (wOwn a h cs s' hs) := by
    cases hh : l.hollow with
    | false => exact Ta.te (Ta.andF (Te.cast (Te.plain hlv Tru.bool) hh))
    | true =>
      have tb : ∀ {p1 p2 p3 p4 p5 p6 : Pos}, Te w H (n + 2) (wEnv L f q cd) ρ' (wOwn a h cs s' hs) (.Compare (.Call (.Name "_law_below" p1) [.Name "plan" p2, .Name "label" p4] [] p3) [.NotEq] [.List [] p5] p6) (!((below P l.name).map V.str).isEmpty) (wOwn a h cs s' hs) :=
        Te.cmp (Ev.below (n := n + 1) Gv Hb hW (Nat.le_trans hP (Nat.le_of_ble_eq_true rfl)) (by rfl) hr'.plan hla') (Ev.list Es.nil) (Op2.neLstNil .lst)
      rw [List.isEmpty_map] at tb
      cases hbe : (below P l.name).isEmpty with
      | true => exact Ta.te (Ta.andT (Te.cast (Te.plain hlv Tru.bool) hh) (Ta.andF (Te.cast tb (by rw [hbe]; rfl))))
      | false => exact Ta.te (Ta.andT (Te.cast (Te.plain hlv Tru.bool) hh) (Ta.andT (Te.cast tb (by rw [hbe]; rfl)) Ta.andNil))
  refine ⟨_, _, tst, fun hq => ?_, fun hq => ?_⟩
  · have hbe : (below P l.name).isEmpty = false := by simp at hq; simpa using hq.2
    have hbp : 0 < (below P l.name).length := by
      rcases Nat.eq_zero_or_pos (below P l.name).length with h0 | h0
      · rw [List.length_eq_zero_iff.mp h0] at hbe; cases hbe
      · exact h0
    have d1 := drw_lo (cs := cs) (s := s') (wide := ((below P l.name).length : Int)) (Int.natCast_pos.mpr hbp)
    have d2 := drw_hi (cs := cs) (s := s') (wide := ((below P l.name).length : Int)) (Int.natCast_pos.mpr hbp)
    have hj : (drw cs s' ((below P l.name).length : Int)).toNat < (below P l.name).length := toNat_small d1 d2
    obtain ⟨m, hm, hmn, hmp⟩ := mem_below.mp (List.getElem_mem hj)
    refine Sx.cons (S1.assign (Ev.below (n := n + 1) Gv Hb hW (Nat.le_trans hP (Nat.le_of_ble_eq_true rfl)) (by rfl) hr'.plan hla') (.inl (by rfl)) ?_)
    refine Sx.cons (S1.assign (d := .str m.name) (Ev.sub (Ev.name (d := .lst ((below P l.name).map .str)) (by rfl)) (Ev.draw (n := n + 1) Gv Bl Hd (wide := ((below P l.name).length : Int)) (Int.natCast_pos.mpr hbp) (Nat.le_trans b1 (Nat.le_of_ble_eq_true rfl)) hc (by rfl) hr'.feed
      (Ev.call (o₁ := []) (o₂ := []) (r := wOwn a h cs s' hs) (Ev.blt Gv (by rfl) Bl.len.1 Bl.len.2) (Es.cons (Ev.name (d := .lst ((below P l.name).map .str)) (by rfl)) Es.nil) (.builtin _) (Fn.cast (Fn.lenL .lst (by rw [List.length_map]; exact Nat.le_trans hbl (Nat.le_of_ble_eq_true rfl))) (by rw [List.length_map]))))
      (Op2.subLst .lst d1 (by rw [List.getElem?_map, List.getElem?_eq_getElem hj]; exact congrArg (fun z => some (V.str z)) hmn.symm) (lt_big d2 hbl))) (.inl (by rfl)) (Sx.nil ?_))
    have hlt : rk P l.name < rk P m.name := by
      rcases hW.parent m hm with e | ⟨k', hk', e1, _, e3⟩
      · exact absurd (hmp.symm.trans e) (hW.ne l hl)
      · rw [e1, hmp] at e3; exact e3
    have hmk := rk_lt (List.mem_map_of_mem (f := (·.name)) hm)
    have hkk : P.length - rk P m.name < k := by rw [hk]; exact Nat.sub_lt_sub_left hlk hlt
    exact ⟨P.length - rk P m.name, hkk, m, s' + 1, ⟨hr'.feed, hr'.plan, hr'.has, hr'.tall⟩, hat', hm, by rfl, rfl, rfl, Nat.le_trans (by rw [Nat.add_right_comm]; exact Nat.add_lt_add_left hkk s') hsk⟩
  · exact hN ρ' l s' hr' hat' hl hla' b0

theorem has_own {a h : Addr} {cs : List Int} {s : Nat} {hs1 hs2 : HL} {x : Str} {c : Addr} {xs : List Int} : wOwn a h cs s (hs1 ++ (x, c, xs) :: hs2) = ((a, O.dict (feedV cs s)) :: (h, .dict (hasK (hs1 ++ (x, c, xs) :: hs2))) :: hasO hs1) ++ (c, .list (xs.map .int)) :: hasO hs2 := by
  simp [wOwn, hasO]
/-- has[label].append(atom) -/
theorem app_has {a h : Addr} {cs : List Int} {s : Nat} {hs1 hs2 : HL} {x : Str} {c : Addr} {xs : List Int} {t : Int} {p1 p2 p3 p4 p5 p6 p7 : Pos} (hx : x ∉ hs1.map (·.1)) (h1 : ρ "has" = some (.raw (.ref h))) (h2 : ρ "label" = some (.str x)) (h3 : ρ "atom" = some (.int t)) (hl : xs.length ≤ 1000)
    (hN : N ρ (wOwn a h cs s (hs1 ++ (x, c, xs ++ [t]) :: hs2)))
    (hbase : attributeBase (.Subscript (.Name "has" p1) (.Name "label" p2) p3) "append" env (eval (.Subscript (.Name "has" p1) (.Name "label" p2) p3) env) = eval (.Subscript (.Name "has" p1) (.Name "label" p2) p3) env := by rfl)
    (hfew : methodCallForm (([.Name "atom" p5] : List Expr).length + ([] : List Keyword).length) (backTo p6 (starEach [.Name "atom" p5] env)) (backToKw p6 (keywordEach [] env)) = true := by rfl)
    (hline : (p4.endLine == p6.line) = true := by rfl) (htrees : backTo p6 (starEach [.Name "atom" p5] env) = [(false, eval (.Name "atom" p5) env)] := by rfl)
    (hi : interactive env = false := by rfl) (hs : swapsWith (.Call (.Attribute (.Subscript (.Name "has" p1) (.Name "label" p2) p3) "append" p4) [.Name "atom" p5] [] p6) none p7.line env = pure false := by rfl) :
    S1 w H n pk env (.Expr (.Call (.Attribute (.Subscript (.Name "has" p1) (.Name "label" p2) p3) "append" p4) [.Name "atom" p5] [] p6) p7) ρ (wOwn a h cs s (hs1 ++ (x, c, xs) :: hs2)) N R := by
  have e1 := @has_own a h cs s hs1 hs2 x c xs
  have e2 : wOwn a h cs s (hs1 ++ (x, c, xs ++ [t]) :: hs2) = ((a, O.dict (feedV cs s)) :: (h, .dict (hasK (hs1 ++ (x, c, xs) :: hs2))) :: hasO hs1) ++ (c, .list (xs.map .int ++ [.int t])) :: hasO hs2 := by
    rw [has_own, hasK_app (xs := xs)]; simp
  have hd : AsD (wOwn a h cs s (hs1 ++ (x, c, xs) :: hs2)) (.raw (.ref h)) (hasK (hs1 ++ (x, c, xs) :: hs2)) := .own (.tail _ (.head _))
  have xo : Ev w H n env ρ (wOwn a h cs s (hs1 ++ (x, c, xs) :: hs2)) (.Subscript (.Name "has" p1) (.Name "label" p2) p3) (.raw (.ref c)) (wOwn a h cs s (hs1 ++ (x, c, xs) :: hs2)) := Ev.sub (Ev.name h1) (Ev.name h2) (Op2.subDct hd (look_has hx))
  rw [e2] at hN
  rw [e1] at xo ⊢
  exact S1.append xo (List.mem_append_right _ (.head _)) (Ev.name h3) (by rw [List.length_map]; (first | assumption | exact Nat.le_of_ble_eq_true rfl | exact Nat.add_le_add_left (Nat.le_of_ble_eq_true rfl) _ | exact Nat.le_trans (by assumption) (Nat.le_of_ble_eq_true rfl) | lia | omega)) hN hbase hfew hline htrees hi hs

noncomputable abbrev IUp (a h : Addr) (P : List Lab) (t : Int) (cs : List Int) (s : Nat) (hs : HL) (B : Str → Nat) : Nat → Names → Own → Prop := fun k ρ' own' => ∃ x hs', Wr ρ' a h P ∧ ρ' "atom" = some (.int t) ∧ ρ' "label" = some (.str x) ∧ (x = ("" : Str) ∧ k = 0 ∨ ∃ l ∈ P, l.name = x ∧ k = rk P x + 1) ∧ own' = wOwn a h cs s hs' ∧ HsOk P hs' (fun y => B y + if k ≤ rk P y then 1 else 0) ∧ hs'.map (·.2.1) = hs.map (·.2.1)
/-- up to the top, the atom laid into each -/
theorem world_up {a h f L : Addr} {q : Str} {cd : Value} {cs : List Int} {P : List Lab} {s : Nat} {l₀ : Lab} {hs : HL} {t : Int} {B : Str → Nat} (hW : Wf P) (hP : P.length ≤ 8) (hB : ∀ y, B y ≤ 500) (ht : 0 ≤ t ∧ t < 4)
    (hr : Wr ρ a h P) (hla : ρ "label" = some (.str l₀.name)) (hl₀ : l₀ ∈ P) (hat : ρ "atom" = some (.int t)) (ho : HsOk P hs B)
    (hN : ∀ ρ' hs', Wr ρ' a h P → HsOk P hs' (fun y => B y + 1) → hs'.map (·.2.1) = hs.map (·.2.1) → N ρ' (wOwn a h cs s hs')) :
    Sx w H n pk (wEnv L f q cd) ((bodyOf (top 55).2.1[2]?).drop 2) ρ (wOwn a h cs s hs) N R := by
  have hlk₀ := rk_lt (List.mem_map_of_mem (f := (·.name)) hl₀)
  refine Sx.cons (S1.while (IUp a h P t cs s hs B) (rk P l₀.name + 1)
    ⟨l₀.name, hs, hr, hat, hla, .inr ⟨l₀, hl₀, rfl, rfl⟩, rfl, ho.le fun y => by (first | assumption | exact Nat.le_of_ble_eq_true rfl | exact Nat.add_le_add_left (Nat.le_of_ble_eq_true rfl) _ | exact Nat.le_trans (by assumption) (Nat.le_of_ble_eq_true rfl) | lia | omega), rfl⟩ ?_)
  rintro k ρ' own' ⟨x, hs', hr', hat', hla', hx, rfl, ho', hads⟩
  refine ⟨x != "", _, Te.cmp (Ev.name hla') Ev.constStr Op2.neStr, fun hq => ?_, fun hq => ?_⟩
  · rcases hx with ⟨rfl, _⟩ | ⟨l, hl, rfl, hk⟩
    · exact absurd hq (by (first | kernel_rfl | decide +kernel))
    · have hmem : l.name ∈ hs'.map (·.1) := by rw [ho'.keys]; exact List.mem_map_of_mem hl
      obtain ⟨hs1, c, xs, hs2, rfl, hnot⟩ := has_split hmem
      have hxl := (ho'.vals (l.name, c, xs) (List.mem_append_right _ (.head _))).1
      refine Sx.cons (app_has hnot hr'.has hla' hat' (by show xs.length ≤ 1000; have h9 : xs.length ≤ B l.name + (if k ≤ rk P l.name then 1 else 0) := hxl; have := hB l.name; split at h9 <;> (first | assumption | exact Nat.le_of_ble_eq_true rfl | exact Nat.add_le_add_left (Nat.le_of_ble_eq_true rfl) _ | exact Nat.le_trans (by assumption) (Nat.le_of_ble_eq_true rfl) | lia | omega)) ?_)
      refine Sx.cons (S1.assign (d := .str l.parent) (Ev.sub (Ev.sub (Ev.name hr'.plan) (Ev.name hla') (Op2.subDct .dct (hW.look hl))) Ev.constInt (Op2.subTup (by decide) (by rfl))) (.inl (by rfl)) (Sx.nil ?_))
      have up : ∀ m : Nat, m ≤ rk P l.name → ∀ y : Str, (if y = l.name then (B y + if k ≤ rk P y then 1 else 0) + 1 else (B y + if k ≤ rk P y then 1 else 0)) ≤ B y + if m ≤ rk P y then 1 else 0 := fun m hm y => by
        by_cases hy : y = l.name
        · subst hy; rw [if_pos rfl, if_neg (by (first | assumption | exact Nat.le_of_ble_eq_true rfl | exact Nat.add_le_add_left (Nat.le_of_ble_eq_true rfl) _ | exact Nat.le_trans (by assumption) (Nat.le_of_ble_eq_true rfl) | lia | omega)), if_pos hm]; (first | assumption | exact Nat.le_of_ble_eq_true rfl | exact Nat.add_le_add_left (Nat.le_of_ble_eq_true rfl) _ | exact Nat.le_trans (by assumption) (Nat.le_of_ble_eq_true rfl) | lia | omega)
        · rw [if_neg hy]
          by_cases h1 : k ≤ rk P y
          · rw [if_pos h1, if_pos (by (first | assumption | exact Nat.le_of_ble_eq_true rfl | exact Nat.add_le_add_left (Nat.le_of_ble_eq_true rfl) _ | exact Nat.le_trans (by assumption) (Nat.le_of_ble_eq_true rfl) | lia | omega))]; (first | assumption | exact Nat.le_of_ble_eq_true rfl | exact Nat.add_le_add_left (Nat.le_of_ble_eq_true rfl) _ | exact Nat.le_trans (by assumption) (Nat.le_of_ble_eq_true rfl) | lia | omega)
          · rw [if_neg h1]; (first | assumption | exact Nat.le_of_ble_eq_true rfl | exact Nat.add_le_add_left (Nat.le_of_ble_eq_true rfl) _ | exact Nat.le_trans (by assumption) (Nat.le_of_ble_eq_true rfl) | lia | omega)
      have fr : Wr (upd ρ' "label" (.str l.parent)) a h P := ⟨hr'.feed, hr'.plan, hr'.has, hr'.tall⟩
      have hads' : (hs1 ++ (l.name, c, xs ++ [t]) :: hs2).map (·.2.1) = hs.map (·.2.1) := by rw [← hads]; simp
      rcases hW.parent l hl with e | ⟨k', hk', e1, _, e3⟩
      · exact ⟨0, by (first | assumption | exact Nat.le_of_ble_eq_true rfl | exact Nat.add_le_add_left (Nat.le_of_ble_eq_true rfl) _ | exact Nat.le_trans (by assumption) (Nat.le_of_ble_eq_true rfl) | lia | omega), l.parent, _, fr, hat', by rfl, .inl ⟨e, rfl⟩, rfl, (ho'.app ht.1 ht.2).le (up 0 (by (first | assumption | exact Nat.le_of_ble_eq_true rfl | exact Nat.add_le_add_left (Nat.le_of_ble_eq_true rfl) _ | exact Nat.le_trans (by assumption) (Nat.le_of_ble_eq_true rfl) | lia | omega))), hads'⟩
      · exact ⟨rk P l.parent + 1, by rw [← e1]; (first | assumption | exact Nat.le_of_ble_eq_true rfl | exact Nat.add_le_add_left (Nat.le_of_ble_eq_true rfl) _ | exact Nat.le_trans (by assumption) (Nat.le_of_ble_eq_true rfl) | lia | omega), l.parent, _, fr, hat', by rfl, .inr ⟨k', hk', e1, rfl⟩, rfl, (ho'.app ht.1 ht.2).le (up _ (by rw [← e1]; (first | assumption | exact Nat.le_of_ble_eq_true rfl | exact Nat.add_le_add_left (Nat.le_of_ble_eq_true rfl) _ | exact Nat.le_trans (by assumption) (Nat.le_of_ble_eq_true rfl) | lia | omega))), hads'⟩
  · exact Sx.nil (hN ρ' hs' hr' (ho'.le fun y => by split <;> (first | assumption | exact Nat.le_of_ble_eq_true rfl | exact Nat.add_le_add_left (Nat.le_of_ble_eq_true rfl) _ | exact Nat.le_trans (by assumption) (Nat.le_of_ble_eq_true rfl) | lia | omega)) hads)
end
end Mine
end
section
open PySem PySem.W PyProof.Rows PySem.MeetsSeq PySem.SeqAt
set_option maxRecDepth 100000
namespace Mine

noncomputable def hasV (hs : HL) : List (Str × V) := hs.map fun h => (h.1, .lst (h.2.2.map .int))
noncomputable def xsOf (hs : HL) (x : Str) : Option (List Int) := (hs.find? fun h => h.1 = x).map (·.2.2)
theorem look_hasV {hs : HL} {x : Str} : lookV (hasV hs) x = (xsOf hs x).map fun xs => .lst (xs.map .int) := by
  unfold lookV hasV xsOf
  rw [List.find?_map]
  simp [Function.comp_def, Option.map_map]
noncomputable def inHas (hs : HL) (t : Int) : V → Bool
  | .str y => match xsOf hs y with
    | some xs => xs.contains t
    | none => false
  | _ => false
theorem xsOf_some {hs : HL} {x : Str} (h : x ∈ hs.map (·.1)) : ∃ xs, xsOf hs x = some xs := by
  obtain ⟨y, hy, rfl⟩ := List.mem_map.mp h
  unfold xsOf
  cases e : hs.find? (fun h => h.1 = y.1) with
  | none => have := List.find?_eq_none.mp e y hy; simp at this
  | some z => exact ⟨_, rfl⟩
theorem upto_at {k i : Nat} {d : V} (h : (upto k)[i]? = some d) : i < k ∧ d = .int i := by
  have hi : i < k := by have := (List.getElem?_eq_some_iff.mp h).1; simpa [upto] using this
  refine ⟨hi, ?_⟩
  simp [upto, hi] at h
  exact h.symm

section
variable {w : World} {H Z : Heap} {n : Nat} {pk : List Addr} {env : Env} {ρ ρc : Names} {o₀ o₁ o₂ o₃ own own₁ own₂ F : Own} {N : Names → Own → Prop} {R : V → Own → Prop} {sts : List Stmt} {st : Stmt}

theorem Fzd.has {h : Addr} {hs : HL} (hd : (h, O.dict (hasK hs)) ∈ F) (hl : ∀ y ∈ hs, (y.2.1, O.list (y.2.2.map .int)) ∈ F) : Fzd w H F (.raw (.ref h)) (.dct (hasV hs)) := fun b g v B r => by
  simp only [VR] at r
  obtain ⟨kv, hn, ⟨o, es, ep, ho, q⟩, hs'⟩ := B.ow _ hd
  simp only [VR]
  refine ⟨h, kv, r, hn, ⟨o, es, ep, allH_some.mpr ⟨.inr (List.mem_map_of_mem hd), ho⟩, q⟩, ?_⟩
  have key : ∀ (hs : HL) (kv : List (Str × Value)), (∀ y ∈ hs, (y.2.1, O.list (y.2.2.map .int)) ∈ F) → VRp w b (hasK hs) kv → VRp w (allH b g F) (hasV hs) kv := fun hs => by
    induction hs with
    | nil => intro kv _ h; cases kv with
      | nil => simp [hasV, VRp]
      | cons _ _ => simp [hasK, VRp] at h
    | cons y hs ih => intro kv hl h; cases kv with
      | nil => simp [hasK, VRp] at h
      | cons z kv =>
        obtain ⟨z1, z2⟩ := z
        simp only [hasK, List.map_cons, VRp, VR] at h
        simp only [hasV, List.map_cons, VRp]
        refine ⟨h.1, ?_, ih kv (fun k hk => hl k (.tail _ hk)) h.2.2⟩
        rw [h.2.1]
        have hm := hl y (.head _)
        obtain ⟨vs, ⟨o, m, ho, hq⟩, hv⟩ := B.ow _ hm
        simp only [VR]
        exact ⟨_, vs, rfl, ⟨o, m, allH_some.mpr ⟨.inr (List.mem_map_of_mem (f := (·.1)) hm), ho⟩, hq⟩, hv.mono (le_allH B.sub)⟩
  exact key hs kv hl hs'

noncomputable def headOf : Expr → Expr
  | .BoolOp _ (e :: _) _ => e
  | e => e
theorem rk_at {P : List Lab} (hW : Wf P) {j : Nat} (hj : j < P.length) : rk P P[j].name = j := by
  have hn := hW.nodup
  have hj' : j < (names P).length := by rw [List.length_map]; exact hj
  have e : (names P)[j] = P[j].name := by simp
  have h1 : (names P).findIdx (fun y => y == P[j].name) < (names P).length := List.findIdx_lt_length_of_exists ⟨P[j].name, List.mem_map_of_mem (List.getElem_mem hj), by simp⟩
  have h2 := List.findIdx_getElem (w := h1)
  have h3 : (names P)[(names P).findIdx fun y => y == P[j].name] = (names P)[j] := by rw [e]; simpa using h2
  exact (List.getElem_inj hn).mp h3

noncomputable abbrev IPart2 (a h : Addr) (P : List Lab) (cs : List Int) (s : Nat) (hs : HL) (B : Str → Nat) (l : Lab) (j : Nat) : Nat → Names → Own → Prop := fun i ρ'' own'' => ∃ hs'' s'', Wr ρ'' a h P ∧ ρ'' "label" = some (.str l.name) ∧ own'' = wOwn a h cs s'' hs'' ∧ HsOk P hs'' (fun y => B y + if rk P y < j then 4 else if y = l.name then i else 0) ∧ hs''.map (·.2.1) = hs.map (·.2.1) ∧ s'' ≤ s + 4 * j + i
noncomputable abbrev IPart (a h : Addr) (P : List Lab) (cs : List Int) (s : Nat) (hs : HL) (B : Str → Nat) : Nat → Names → Own → Prop := fun j ρ' own' => ∃ hs' s', Wr ρ' a h P ∧ own' = wOwn a h cs s' hs' ∧ HsOk P hs' (fun y => B y + if rk P y < j then 4 else 0) ∧ hs'.map (·.2.1) = hs.map (·.2.1) ∧ s' ≤ s + 4 * j
/-- the atoms of those that it is a part of, now and then -/
theorem world_parts {a h f fd L : Addr} {q : Str} {cd : Value} {cs : List Int} {P : List Lab} {s : Nat} {hs : HL} {B : Str → Nat} {mg mb : Str → Option Value} (Gv : Gl H mg mb) (Bl : Blts mg mb) (Hd : Has H mg "_law_draw" (top 52) fd) (hW : Wf P) (hP : P.length ≤ 8) (hB : ∀ y, B y ≤ 500) (hs0 : s ≤ 5000) (hc : cs.length ≤ 1000)
    (hr : Wr ρ a h P) (ho : HsOk P hs B)
    (hN : ∀ ρ' hs' s', Wr ρ' a h P → HsOk P hs' (fun y => B y + 4) → hs'.map (·.2.1) = hs.map (·.2.1) → s' ≤ s + 32 → Sx w H (n + 2) pk (wEnv L f q cd) sts ρ' (wOwn a h cs s' hs') N R) :
    ∀ st, (top 55).2.1[3]? = some st → Sx w H (n + 2) pk (wEnv L f q cd) (st :: sts) ρ (wOwn a h cs s hs) N R := by
  intro st hst
  cases hst
  refine Sx.cons (S1.for (IPart a h P cs s hs B)
    (Src.of (Ev.name hr.plan) (Itr.dct .dct) (List.nil_sublist _)) (.inl (by rfl)) ⟨hs, s, hr, rfl, ho.le fun y => by (first | assumption | exact Nat.le_of_ble_eq_true rfl | exact Nat.add_le_add_left (Nat.le_of_ble_eq_true rfl) _ | exact Nat.le_trans (by assumption) (Nat.le_of_ble_eq_true rfl) | lia | omega), rfl, by (first | assumption | exact Nat.le_of_ble_eq_true rfl | exact Nat.add_le_add_left (Nat.le_of_ble_eq_true rfl) _ | exact Nat.le_trans (by assumption) (Nat.le_of_ble_eq_true rfl) | lia | omega)⟩ ?_ ?_)
  · rintro j d hd ρ' own' ⟨hs', s', hr', rfl, ho', hads, hsl⟩
    rw [keys_plan] at hd
    have hj : j < P.length := by have := (List.getElem?_eq_some_iff.mp hd).1; simpa using this
    rw [List.getElem?_map, List.getElem?_eq_getElem hj] at hd
    cases hd
    have hl : P[j] ∈ P := List.getElem_mem hj
    have hrk : rk P P[j].name = j := rk_at hW hj
    generalize P[j] = l at hl hrk
    have hrl : Wr (upd ρ' "label" (.str l.name)) a h P := ⟨hr'.feed, hr'.plan, hr'.has, hr'.tall⟩
    refine Sx.cons (S1.for (IPart2 a h P cs s hs B l j)
      (Src.of (Ev.call (o₁ := []) (o₂ := []) (o₃ := []) (r := wOwn a h cs s' hs') (Ev.blt Gv (by rfl) Bl.range.1 Bl.range.2) (Es.cons Ev.constInt Es.nil) (.type _) Fn.range) (Itr.rng (k := 4) (by decide)) (List.nil_sublist _)) (.inr ⟨by rfl, by rfl⟩) ⟨hs', s', hrl, by rfl, rfl, ho'.le fun y => by split <;> (try split) <;> (first | assumption | exact Nat.le_of_ble_eq_true rfl | exact Nat.add_le_add_left (Nat.le_of_ble_eq_true rfl) _ | exact Nat.le_trans (by assumption) (Nat.le_of_ble_eq_true rfl) | lia | omega), hads, by (first | assumption | exact Nat.le_of_ble_eq_true rfl | exact Nat.add_le_add_left (Nat.le_of_ble_eq_true rfl) _ | exact Nat.le_trans (by assumption) (Nat.le_of_ble_eq_true rfl) | lia | omega)⟩ ?_ ?_)
    · rintro i d hd ρ'' own'' ⟨hs'', s'', hr'', hla, rfl, ho'', hads'', hsl''⟩
      obtain ⟨hi, rfl⟩ := upto_at hd
      have hra : Wr (upd ρ'' "atom" (.int (i : Int))) a h P := ⟨hr''.feed, hr''.plan, hr''.has, hr''.tall⟩
      have hlt := hW.parts l hl
      have hpl := hW.parts_len l hl
      obtain ⟨F, hF⟩ : ∃ F : Own, F = (h, O.dict (hasK hs'')) :: hasO hs'' := ⟨_, rfl⟩
      have hsub : F.Sublist (wOwn a h cs s'' hs'') := by rw [hF]; exact .cons _ (.refl _)
      have fz : Fzd w H F (.raw (.ref h)) (.dct (hasV hs'')) := Fzd.has (hs := hs'') (by rw [hF]; exact .head _) fun y hy => by
        rw [hF]; exact .tail _ (List.mem_map_of_mem (f := fun h : Str × Addr × List Int => (h.2.1, O.list (h.2.2.map V.int))) hy)
      have dr : ∀ {p1 p2 p3 p4 : Pos}, Ev w H (n + 2) (wEnv L f q cd) (upd ρ'' "atom" (.int (i : Int))) (wOwn a h cs s'' hs'') (.Call (.Name "_law_draw" p1) [.Name "feed" p2, .Constant (.int 2) 0 p4] [] p3) (.int (drw cs s'' 2)) (wOwn a h cs (s'' + 1) hs'') := Ev.draw (n := n + 1) Gv Bl Hd (by decide) (by (first | assumption | exact Nat.le_of_ble_eq_true rfl | exact Nat.add_le_add_left (Nat.le_of_ble_eq_true rfl) _ | exact Nat.le_trans (by assumption) (Nat.le_of_ble_eq_true rfl) | lia | omega)) hc (by rfl) hr''.feed Ev.constInt
      have fin : ∀ s3, s3 ≤ s'' + 1 → Sx w H (n + 2) pk (wEnv L f q cd) [] (upd ρ'' "atom" (.int (i : Int))) (wOwn a h cs s3 hs'') (IPart2 a h P cs s hs B l j (i + 1)) R :=
        fun s3 h3 => Sx.nil ⟨hs'', s3, hra, hla, rfl, ho''.le fun y => by split <;> (try split) <;> (first | assumption | exact Nat.le_of_ble_eq_true rfl | exact Nat.add_le_add_left (Nat.le_of_ble_eq_true rfl) _ | exact Nat.le_trans (by assumption) (Nat.le_of_ble_eq_true rfl) | lia | omega), hads'', by (first | assumption | exact Nat.le_of_ble_eq_true rfl | exact Nat.add_le_add_left (Nat.le_of_ble_eq_true rfl) _ | exact Nat.le_trans (by assumption) (Nat.le_of_ble_eq_true rfl) | lia | omega)⟩
      have cmp : ∀ p, p = inHas hs'' (i : Int) → ∃ q0, Te w H (n + 2) (wEnv L f q cd) (upd ρ'' "atom" (.int (i : Int))) (wOwn a h cs s'' hs'') (headOf (testOf (bodyOf ((bodyOf (top 55).2.1[3]?)[0]?))[0]?)) q0 (wOwn a h cs s'' hs'') := fun p hp => ⟨_, Te.cmp
        (Ev.comp (F := F) (x := "one") (Src.of (Ev.sub (Ev.sub (Ev.name hr''.plan) (Ev.name hla) (Op2.subDct .dct (hW.look hl))) Ev.constInt (Op2.subTup (d := .tup (l.parts.map .str)) (by decide) (by rfl))) Itr.tup hsub) hsub (p := p) (f := id) (ρc := capρ [("has", .dct (hasV hs'')), ("atom", .int (i : Int))])
          ⟨CompOk.of (by (first | kernel_rfl | decide +kernel)), by rw [List.length_map]; (first | assumption | exact Nat.le_of_ble_eq_true rfl | exact Nat.add_le_add_left (Nat.le_of_ble_eq_true rfl) _ | exact Nat.le_trans (by assumption) (Nat.le_of_ble_eq_true rfl) | lia | omega), CapL.cap (.cons (by (first | kernel_rfl | decide +kernel)) (by rfl) hra.has fz (.cons (by (first | kernel_rfl | decide +kernel)) (by rfl) (by rfl) Fzd.same .nil)), .inr (fun d hd => by
            rw [List.map_id] at hd
            obtain ⟨y, _, rfl⟩ := List.mem_map.mp (List.mem_filter.mp hd).1
            rfl), fun C okc d hd => by
            obtain ⟨y, hy, rfl⟩ := List.mem_map.mp hd
            obtain ⟨k, hk, e1, _⟩ := hlt y hy
            obtain ⟨xs, hxs⟩ := xsOf_some (hs := hs'') (x := y) (by rw [ho''.keys, ← e1]; exact List.mem_map_of_mem hk)
            have e : p (.str y) = xs.contains (i : Int) := by rw [hp]; simp [inHas, hxs]
            rw [e]
            exact Tst.one (Te.cmp (Ev.name (d := .int (i : Int)) (by rfl)) (Ev.sub (Ev.name (d := .dct (hasV hs'')) (by rfl)) (Ev.name (d := .str y) (by rfl)) (Op2.subDct .dct (by rw [look_hasV, hxs]; rfl))) (Op2.inLstInt .lst)), fun C okc d hd _ => Ev.name (by rfl)⟩) (Ev.list Es.nil) (Op2.neLstNil .lst)⟩
      obtain ⟨q0, hq0⟩ := cmp _ rfl
      cases q0 with
      | false => exact Sx.cons (S1.ite (Ta.te (Ta.andF hq0)) (Sx.nil (fin s'' (by (first | assumption | exact Nat.le_of_ble_eq_true rfl | exact Nat.add_le_add_left (Nat.le_of_ble_eq_true rfl) _ | exact Nat.le_trans (by assumption) (Nat.le_of_ble_eq_true rfl) | lia | omega)))))
      | true =>
        by_cases h1 : drw cs s'' 2 = 1
        · refine Sx.cons (S1.ite (Ta.te (Ta.andT hq0 (Ta.andT (Te.cast (Te.cmp dr Ev.constInt Op2.eqInt) (by rw [h1]; rfl)) Ta.andNil))) ?_)
          obtain ⟨hs1, c, xs, hs2, rfl, hnot⟩ := has_split (hs := hs'') (x := l.name) (by rw [ho''.keys]; exact List.mem_map_of_mem hl)
          have hxl := (ho''.vals (l.name, c, xs) (List.mem_append_right _ (.head _))).1
          refine Sx.cons (app_has hnot hra.has hla (by rfl) (by show xs.length ≤ 1000; have h9 : xs.length ≤ B l.name + (if rk P l.name < j then 4 else if l.name = l.name then i else 0) := hxl; have := hB l.name; split at h9 <;> (try split at h9) <;> (first | assumption | exact Nat.le_of_ble_eq_true rfl | exact Nat.add_le_add_left (Nat.le_of_ble_eq_true rfl) _ | exact Nat.le_trans (by assumption) (Nat.le_of_ble_eq_true rfl) | lia | omega)) (Sx.nil (Sx.nil ⟨_, s'' + 1, hra, hla, rfl, (ho''.app (by (first | assumption | exact Nat.le_of_ble_eq_true rfl | exact Nat.add_le_add_left (Nat.le_of_ble_eq_true rfl) _ | exact Nat.le_trans (by assumption) (Nat.le_of_ble_eq_true rfl) | lia | omega)) (by (first | assumption | exact Nat.le_of_ble_eq_true rfl | exact Nat.add_le_add_left (Nat.le_of_ble_eq_true rfl) _ | exact Nat.le_trans (by assumption) (Nat.le_of_ble_eq_true rfl) | lia | omega))).le fun y => (by
            by_cases hy : y = l.name
            · have hnr : ¬ rk P l.name < j := by (first | assumption | exact Nat.le_of_ble_eq_true rfl | exact Nat.add_le_add_left (Nat.le_of_ble_eq_true rfl) _ | exact Nat.le_trans (by assumption) (Nat.le_of_ble_eq_true rfl) | lia | omega)
              subst hy; simp only [if_true, hnr, if_false]; (first | assumption | exact Nat.le_of_ble_eq_true rfl | exact Nat.add_le_add_left (Nat.le_of_ble_eq_true rfl) _ | exact Nat.le_trans (by assumption) (Nat.le_of_ble_eq_true rfl) | lia | omega)
            · simp only [hy, if_false]; exact Nat.le_refl _), by rw [← hads'']; simp, by (first | assumption | exact Nat.le_of_ble_eq_true rfl | exact Nat.add_le_add_left (Nat.le_of_ble_eq_true rfl) _ | exact Nat.le_trans (by assumption) (Nat.le_of_ble_eq_true rfl) | lia | omega)⟩)))
        · exact Sx.cons (S1.ite (Ta.te (Ta.andT hq0 (Ta.andF (Te.cast (Te.cmp dr Ev.constInt Op2.eqInt) (beq_eq_false_iff_ne.mpr h1))))) (Sx.nil (fin (s'' + 1) (by (first | assumption | exact Nat.le_of_ble_eq_true rfl | exact Nat.add_le_add_left (Nat.le_of_ble_eq_true rfl) _ | exact Nat.le_trans (by assumption) (Nat.le_of_ble_eq_true rfl) | lia | omega)))))
    · rintro ρ'' own'' ⟨hs'', s'', hr'', hla, rfl, ho'', hads'', hsl''⟩
      have e4 : (upto 4).length = 4 := rfl
      have ho4 : HsOk P hs'' (fun y => B y + if rk P y < j then 4 else if y = l.name then 4 else 0) := ho''
      have hs4 : s'' ≤ s + 4 * j + 4 := hsl''
      exact Sx.nil ⟨hs'', s'', hr'', rfl, ho4.le fun y => (by
        by_cases h1 : rk P y < j
        · rw [if_pos h1, if_pos (by (first | assumption | exact Nat.le_of_ble_eq_true rfl | exact Nat.add_le_add_left (Nat.le_of_ble_eq_true rfl) _ | exact Nat.le_trans (by assumption) (Nat.le_of_ble_eq_true rfl) | lia | omega))]; (first | assumption | exact Nat.le_of_ble_eq_true rfl | exact Nat.add_le_add_left (Nat.le_of_ble_eq_true rfl) _ | exact Nat.le_trans (by assumption) (Nat.le_of_ble_eq_true rfl) | lia | omega)
        · rw [if_neg h1]
          by_cases hy : y = l.name
          · subst hy; rw [if_pos rfl, if_pos (by (first | assumption | exact Nat.le_of_ble_eq_true rfl | exact Nat.add_le_add_left (Nat.le_of_ble_eq_true rfl) _ | exact Nat.le_trans (by assumption) (Nat.le_of_ble_eq_true rfl) | lia | omega))]; (first | assumption | exact Nat.le_of_ble_eq_true rfl | exact Nat.add_le_add_left (Nat.le_of_ble_eq_true rfl) _ | exact Nat.le_trans (by assumption) (Nat.le_of_ble_eq_true rfl) | lia | omega)
          · rw [if_neg hy]; (first | assumption | exact Nat.le_of_ble_eq_true rfl | exact Nat.add_le_add_left (Nat.le_of_ble_eq_true rfl) _ | exact Nat.le_trans (by assumption) (Nat.le_of_ble_eq_true rfl) | lia | omega)), hads'', by (first | assumption | exact Nat.le_of_ble_eq_true rfl | exact Nat.add_le_add_left (Nat.le_of_ble_eq_true rfl) _ | exact Nat.le_trans (by assumption) (Nat.le_of_ble_eq_true rfl) | lia | omega)⟩
  · rintro ρ' own' ⟨hs', s', hr', rfl, ho', hads, hsl⟩
    rw [keys_plan, List.length_map] at ho' hsl
    exact hN ρ' hs' s' hr' (ho'.le fun y => by split <;> (first | assumption | exact Nat.le_of_ble_eq_true rfl | exact Nat.add_le_add_left (Nat.le_of_ble_eq_true rfl) _ | exact Nat.le_trans (by assumption) (Nat.le_of_ble_eq_true rfl) | lia | omega)) hads (by (first | assumption | exact Nat.le_of_ble_eq_true rfl | exact Nat.add_le_add_left (Nat.le_of_ble_eq_true rfl) _ | exact Nat.le_trans (by assumption) (Nat.le_of_ble_eq_true rfl) | lia | omega))
end
end Mine
end
section
open PySem PySem.W PyProof.Rows PySem.MeetsSeq PySem.SeqAt
set_option maxRecDepth 100000
namespace Mine

section
variable {w : World} {H Z : Heap} {n : Nat} {pk : List Addr} {env : Env} {ρ ρc : Names} {o₀ o₁ o₂ o₃ own own₁ own₂ F : Own} {N : Names → Own → Prop} {R : V → Own → Prop} {sts : List Stmt} {st : Stmt}

theorem Sta.recast {b₀ b : Heap} {s₀ s : Shared} {a : Addr} {O₁ O₂ : O} {l r : Own} (S : Sta w H env pk o₀ b₀ s₀ Z b s ρ (l ++ (a, O₁) :: r)) (h : OAt w b s.heap a O₂) : Sta w H env pk o₀ b₀ s₀ Z b s ρ (l ++ (a, O₂) :: r) :=
  S.change (k := s.toks) (Heap.SameBut.refl ..) h

/-- one value laid down -/
inductive Swap (c : Addr) (ds : List V) : List (Str × V) → List (Str × V) → Prop
  | nil : Swap c ds [] []
  | same {p r r'} : Swap c ds r r' → Swap c ds (p :: r) (p :: r')
  | here {x r r'} : Swap c ds r r' → Swap c ds ((x, .raw (.ref c)) :: r) ((x, .lst ds) :: r')
theorem Swap.refl {c : Addr} {ds : List V} : ∀ {l : List (Str × V)}, Swap c ds l l
  | [] => .nil
  | _ :: _ => .same Swap.refl
theorem Swap.app {c : Addr} {ds : List V} : ∀ {l r r' : List (Str × V)}, Swap c ds r r' → Swap c ds (l ++ r) (l ++ r')
  | [], _, _, h => h
  | _ :: _, _, _, h => .same (Swap.app h)
theorem Swap.vr {b b' : Heap} {c : Addr} {ds : List V} (k : Le b b') (hc : VR w b' (.lst ds) (.ref c)) {l l' : List (Str × V)} (h : Swap c ds l l') : ∀ {vs : List (Str × Value)}, VRp w b l vs → VRp w b' l' vs := by
  induction h with
  | nil => intro vs h; cases vs with
    | nil => simp [VRp]
    | cons _ _ => simp [VRp] at h
  | @same p r r' _ ih => intro vs h; obtain ⟨x, d⟩ := p; cases vs with
    | nil => simp [VRp] at h
    | cons v vs => obtain ⟨y, u⟩ := v; simp only [VRp] at h ⊢; exact ⟨h.1, h.2.1.mono k, ih h.2.2⟩
  | @here x r r' _ ih => intro vs h; cases vs with
    | nil => simp [VRp] at h
    | cons v vs => obtain ⟨y, u⟩ := v; simp only [VRp] at h ⊢
                   refine ⟨h.1, ?_, ih h.2.2⟩
                   have := h.2.1
                   simp only [VR] at this
                   rw [this]; exact hc

theorem Sx.freezeIn {h c : Addr} {X : Addr × O} {kvs kvs' : List (Str × V)} {ds : List V} (hc : c ∉ pk) (sw : Swap c ds kvs kvs') (x : Sx w H n pk env sts ρ (X :: (h, .dict kvs') :: own) N R) : Sx w H n pk env sts ρ (X :: (h, .dict kvs) :: (c, .list ds) :: own) N R := fun A o₀ b₀ s₀ Z b s rm S => by
  have S1 : Sta w H env pk o₀ b₀ s₀ Z b s ρ ((c, .list ds) :: X :: (h, .dict kvs) :: own) := S.perm (List.Perm.trans (List.Perm.cons _ (List.Perm.swap _ _ _)) (List.Perm.swap _ _ _))
  have hl := frozenL S1.loc.sub (S1.loc.ow _ (.head _))
  have S2 := S1.freeze hc
  obtain ⟨kv, hm, hd, hp⟩ := S1.loc.ow (h, .dict kvs) (.tail _ (.tail _ (.head _)))
  exact x A o₀ b₀ s₀ Z _ s rm (Sta.recast (l := [X]) S2 ⟨kv, hm, hd, sw.vr (le_plusH S1.loc.sub) hl hp⟩)

theorem Sx.freezeAll {h : Addr} {X : Addr × O} : ∀ {rest done : HL}, (∀ y ∈ rest, y.2.1 ∉ pk) → Sx w H n pk env sts ρ [X, (h, .dict (hasV (done ++ rest)))] N R → Sx w H n pk env sts ρ (X :: (h, .dict (hasV done ++ hasK rest)) :: hasO rest) N R
  | [], done, _, x => by
    simpa [hasK, hasO] using x
  | y :: rest, done, hc, x => by
    refine Sx.freezeIn (ds := y.2.2.map .int) (kvs' := hasV (done ++ [y]) ++ hasK rest) (hc y (.head _)) ?_ (Sx.freezeAll (done := done ++ [y]) (fun z hz => hc z (.tail _ hz)) (by simpa using x))
    have e : hasV (done ++ [y]) ++ hasK rest = hasV done ++ (y.1, .lst (y.2.2.map .int)) :: hasK rest := by simp [hasV]
    rw [e]
    exact Swap.app (.here Swap.refl)

noncomputable def setH (hs : HL) (x : Str) (xs : List Int) : HL := hs.map fun h => if h.1 = x then (h.1, h.2.1, xs) else h
theorem setH_eq {hs : HL} {x : Str} {xs : List Int} (h : x ∈ hs.map (·.1)) : storedV (hasV hs) x (.lst (xs.map .int)) = hasV (setH hs x xs) := by
  unfold storedV
  rw [if_pos]
  · unfold hasV setH
    rw [List.map_map, List.map_map]
    apply List.map_congr_left
    intro y _
    simp only [Function.comp_def]
    split <;> simp_all
  · obtain ⟨y, hy, e⟩ := List.mem_map.mp h
    exact List.any_eq_true.mpr ⟨(y.1, .lst (y.2.2.map .int)), List.mem_map.mpr ⟨y, hy, rfl⟩, by simpa using e⟩
theorem HsOk.set {P : List Lab} {hs : HL} {x : Str} {xs : List Int} {B : Str → Nat} (h : HsOk P hs B) (h1 : xs.length ≤ B x) (h2 : ∀ z ∈ xs, 0 ≤ z ∧ z < 4) : HsOk P (setH hs x xs) B := by
  refine ⟨?_, fun y hy => ?_⟩
  · rw [← h.keys, setH, List.map_map]
    apply List.map_congr_left
    intro y _
    simp only [Function.comp_def]
    split <;> rfl
  · obtain ⟨z, hz, rfl⟩ := List.mem_map.mp hy
    split
    · rename_i e; exact ⟨by rw [e]; exact h1, h2⟩
    · exact h.vals z hz
theorem xsOf_mem {hs : HL} {x : Str} {xs : List Int} (h : xsOf hs x = some xs) : ∃ y ∈ hs, y.1 = x ∧ y.2.2 = xs := by
  unfold xsOf at h
  obtain ⟨y, hy, e⟩ := Option.map_eq_some_iff.mp h
  exact ⟨y, List.mem_of_find?_eq_some hy, by have := List.find?_some hy; simpa using this, e⟩

noncomputable def notInt (t : Int) : V → Bool
  | .int z => z != t
  | _ => true
theorem filter_int {t : Int} {xs : List Int} : (xs.map V.int).filter (notInt t) = (xs.filter fun z => z != t).map .int := by
  induction xs with
  | nil => rfl
  | cons x xs ih =>
    rw [List.map_cons, List.filter_cons, List.filter_cons, ih]
    have : notInt t (.int x) = (x != t) := rfl
    rw [this]
    split <;> rfl

noncomputable abbrev ITurn (a h : Addr) (P : List Lab) (cs : List Int) (s : Nat) (B : Str → Nat) : Nat → Names → Own → Prop := fun j ρ' own' => ∃ hs' s', Wr ρ' a h P ∧ own' = [(a, O.dict (feedV cs s')), (h, .dict (hasV hs'))] ∧ HsOk P hs' (fun y => B y + j) ∧ s' ≤ s + 1 + 2 * j
/-- the last turns: an atom put in or taken out -/
theorem world_turns {a h f fd L : Addr} {q : Str} {cd : Value} {cs : List Int} {P : List Lab} {s : Nat} {hs : HL} {B : Str → Nat} {mg mb : Str → Option Value} (Gv : Gl H mg mb) (Bl : Blts mg mb) (Hd : Has H mg "_law_draw" (top 52) fd) (hW : Wf P) (hP : P.length ≤ 8) (hP0 : 0 < P.length) (hB : ∀ y, B y ≤ 500) (hs0 : s ≤ 5000) (hc : cs.length ≤ 1000)
    (hr : Wr ρ a h P) (ho : HsOk P hs B) (hpk : h ∉ pk)
    (hN : ∀ hs' s', HsOk P hs' (fun y => B y + 2) → s' ≤ s + 5 → R (.dct (hasV hs')) [(a, O.dict (feedV cs s'))]) :
    Sx w H (n + 2) pk (wEnv L f q cd) ((top 55).2.1.drop 4) ρ [(a, O.dict (feedV cs s)), (h, .dict (hasV hs))] N R := by
  have d1 := drw_lo (cs := cs) (s := s) (wide := 3) (by decide)
  have d2 := drw_hi (cs := cs) (s := s) (wide := 3) (by decide)
  have e3 : drw cs s 3 = ((drw cs s 3).toNat : Int) := by (first | assumption | exact Nat.le_of_ble_eq_true rfl | exact Nat.add_le_add_left (Nat.le_of_ble_eq_true rfl) _ | exact Nat.le_trans (by assumption) (Nat.le_of_ble_eq_true rfl) | lia | omega)
  refine Sx.cons (S1.for (ITurn a h P cs s B)
    (Src.of (Ev.call (o₁ := [(a, O.dict (feedV cs s)), (h, .dict (hasV hs))]) (o₂ := [(a, O.dict (feedV cs (s + 1))), (h, .dict (hasV hs))]) (o₃ := [(a, O.dict (feedV cs (s + 1))), (h, .dict (hasV hs))]) (r := []) (Ev.blt Gv (by rfl) Bl.range.1 Bl.range.2) (Es.cons (Ev.cast (Ev.draw (n := n + 1) Gv Bl Hd (by decide : (0 : Int) < 3) (by (first | assumption | exact Nat.le_of_ble_eq_true rfl | exact Nat.add_le_add_left (Nat.le_of_ble_eq_true rfl) _ | exact Nat.le_trans (by assumption) (Nat.le_of_ble_eq_true rfl) | lia | omega)) hc (by rfl) hr.feed Ev.constInt) (congrArg V.int e3)) Es.nil) (.type _) Fn.range) (Itr.rng (k := (drw cs s 3).toNat) (by (first | assumption | exact Nat.le_of_ble_eq_true rfl | exact Nat.add_le_add_left (Nat.le_of_ble_eq_true rfl) _ | exact Nat.le_trans (by assumption) (Nat.le_of_ble_eq_true rfl) | lia | omega))) (List.nil_sublist _)) (.inl (by rfl)) ⟨hs, s + 1, ⟨hr.feed, hr.plan, hr.has, hr.tall⟩, rfl, ho, by (first | assumption | exact Nat.le_of_ble_eq_true rfl | exact Nat.add_le_add_left (Nat.le_of_ble_eq_true rfl) _ | exact Nat.le_trans (by assumption) (Nat.le_of_ble_eq_true rfl) | lia | omega)⟩ ?_ ?_)
  · rintro j d hd ρ' own' ⟨hs', s', hr', rfl, ho', hsl⟩
    obtain ⟨hj, rfl⟩ := upto_at hd
    have hpl2 : (planV P).length = P.length := by simp [planV]
    have hrow : (planV P).map (fun p => V.str p.1) = (names P).map V.str := by simp [planV, Function.comp_def]
    have f1 := drw_lo (cs := cs) (s := s') (wide := (P.length : Int)) (by (first | assumption | exact Nat.le_of_ble_eq_true rfl | exact Nat.add_le_add_left (Nat.le_of_ble_eq_true rfl) _ | exact Nat.le_trans (by assumption) (Nat.le_of_ble_eq_true rfl) | lia | omega))
    have f2 := drw_hi (cs := cs) (s := s') (wide := (P.length : Int)) (by (first | assumption | exact Nat.le_of_ble_eq_true rfl | exact Nat.add_le_add_left (Nat.le_of_ble_eq_true rfl) _ | exact Nat.le_trans (by assumption) (Nat.le_of_ble_eq_true rfl) | lia | omega))
    have g1 := drw_lo (cs := cs) (s := s' + 1) (wide := 4) (by decide)
    have g2 := drw_hi (cs := cs) (s := s' + 1) (wide := 4) (by decide)
    have hi : (drw cs s' (P.length : Int)).toNat < (names P).length := by rw [List.length_map]; (first | assumption | exact Nat.le_of_ble_eq_true rfl | exact Nat.add_le_add_left (Nat.le_of_ble_eq_true rfl) _ | exact Nat.le_trans (by assumption) (Nat.le_of_ble_eq_true rfl) | lia | omega)
    have hx : (names P)[(drw cs s' (P.length : Int)).toNat] ∈ names P := List.getElem_mem hi
    generalize hxe : (names P)[(drw cs s' (P.length : Int)).toNat] = x at hx
    generalize ht : drw cs (s' + 1) 4 = t at g1 g2
    refine Sx.cons (S1.tupN (l := [("label", _), ("atom", _)]) (Eg.tuple (Egs.cons (Eg.of (Ev.sub (Ev.call (o₁ := []) (o₂ := []) (o₃ := []) (r := [(a, O.dict (feedV cs s')), (h, .dict (hasV hs'))]) (Ev.blt Gv (by rfl) Bl.list.1 Bl.list.2) (Es.cons (Ev.name hr'.plan) Es.nil) (.type _) (Fn.cast (Fn.listD .dct (by (first | assumption | exact Nat.le_of_ble_eq_true rfl | exact Nat.add_le_add_left (Nat.le_of_ble_eq_true rfl) _ | exact Nat.le_trans (by assumption) (Nat.le_of_ble_eq_true rfl) | lia | omega))) (congrArg V.lst hrow)))
      (Ev.draw (n := n + 1) (wide := (P.length : Int)) Gv Bl Hd (by (first | assumption | exact Nat.le_of_ble_eq_true rfl | exact Nat.add_le_add_left (Nat.le_of_ble_eq_true rfl) _ | exact Nat.le_trans (by assumption) (Nat.le_of_ble_eq_true rfl) | lia | omega)) (by (first | assumption | exact Nat.le_of_ble_eq_true rfl | exact Nat.add_le_add_left (Nat.le_of_ble_eq_true rfl) _ | exact Nat.le_trans (by assumption) (Nat.le_of_ble_eq_true rfl) | lia | omega)) hc (by rfl) hr'.feed (Ev.call (o₁ := []) (o₂ := []) (o₃ := []) (r := [(a, O.dict (feedV cs s')), (h, .dict (hasV hs'))]) (Ev.blt Gv (by rfl) Bl.len.1 Bl.len.2) (Es.cons (Ev.name hr'.plan) Es.nil) (.builtin _) (Fn.cast (Fn.lenD .dct (by (first | assumption | exact Nat.le_of_ble_eq_true rfl | exact Nat.add_le_add_left (Nat.le_of_ble_eq_true rfl) _ | exact Nat.le_trans (by assumption) (Nat.le_of_ble_eq_true rfl) | lia | omega))) (by rw [hpl2]))))
      (Op2.subLst (d := .str x) .lst f1 (by rw [List.getElem?_map, List.getElem?_eq_getElem hi, hxe]; rfl) (by (first | assumption | exact Nat.le_of_ble_eq_true rfl | exact Nat.add_le_add_left (Nat.le_of_ble_eq_true rfl) _ | exact Nat.le_trans (by assumption) (Nat.le_of_ble_eq_true rfl) | lia | omega))))
      (Egs.cons (Eg.of (Ev.cast (Ev.draw (n := n + 1) (s := s' + 1) (r := [(h, .dict (hasV hs'))]) Gv Bl Hd (by decide : (0 : Int) < 4) (by (first | assumption | exact Nat.le_of_ble_eq_true rfl | exact Nat.add_le_add_left (Nat.le_of_ble_eq_true rfl) _ | exact Nat.le_trans (by assumption) (Nat.le_of_ble_eq_true rfl) | lia | omega)) hc (by rfl) hr'.feed Ev.constInt) (congrArg V.int ht)) (Egs.nil ⟨by simp, _, rfl, rfl, ?_⟩)))))) ?_)
    · change Sx w H (n + 2) pk _ _ (upd (upd (upd ρ' "turn" (.int (j : Int))) "label" (.str x)) "atom" (.int t)) [(a, O.dict (feedV cs (s' + 2))), (h, .dict (hasV hs'))] _ _
      have hr2 : Wr (upd (upd (upd ρ' "turn" (.int (j : Int))) "label" (.str x)) "atom" (.int t)) a h P := ⟨hr'.feed, hr'.plan, hr'.has, hr'.tall⟩
      have hxk : x ∈ hs'.map (·.1) := by rw [ho'.keys]; exact hx
      obtain ⟨xs, hxs⟩ := xsOf_some hxk
      obtain ⟨y, hy, hy1, hyx⟩ := xsOf_mem hxs
      have hyv := ho'.vals y hy
      rw [hyx, hy1] at hyv
      have hBx := hB x
      have hd : AsD [(a, O.dict (feedV cs (s' + 2))), (h, O.dict (hasV hs'))] (.raw (.ref h)) (hasV hs') := .own (.tail _ (.head _))
      have hit : ∀ {p1 p2 p3 : Pos}, Ev w H (n + 2) (wEnv L f q cd) (upd (upd (upd ρ' "turn" (.int (j : Int))) "label" (.str x)) "atom" (.int t)) [(a, O.dict (feedV cs (s' + 2))), (h, O.dict (hasV hs'))] (.Subscript (.Name "has" p1) (.Name "label" p2) p3) (.lst (xs.map .int)) [(a, O.dict (feedV cs (s' + 2))), (h, O.dict (hasV hs'))] :=
        Ev.sub (Ev.name hr2.has) (Ev.name (d := .str x) (by rfl)) (Op2.subDct hd (by rw [look_hasV, hxs]; rfl))
      refine Sx.cons (S1.setD (Eg.mono (G' := fun d o => ∃ xs' : List Int, d = .lst (xs'.map .int) ∧ o = [(a, O.dict (feedV cs (s' + 2))), (h, O.dict (hasV hs'))] ∧ xs'.length ≤ B x + j + 1 ∧ ∀ z ∈ xs', 0 ≤ z ∧ z < 4) ?_ fun d o hd' => ?_))
      · by_cases hin : xs.contains t = true
        · refine Eg.of (Ev.ifT (Te.cast (Te.cmp (Ev.name (d := .int t) (by rfl)) hit (Op2.inLstInt .lst)) hin) (Ev.comp (F := []) (x := "one") (Src.of hit (Itr.lst .lst) (List.nil_sublist _)) (List.nil_sublist _) (p := notInt t) (f := id) (ρc := capρ [("atom", .int t)])
            ⟨CompOk.of (by (first | kernel_rfl | decide +kernel)), by rw [List.length_map]; have := hyv.1; (first | assumption | exact Nat.le_of_ble_eq_true rfl | exact Nat.add_le_add_left (Nat.le_of_ble_eq_true rfl) _ | exact Nat.le_trans (by assumption) (Nat.le_of_ble_eq_true rfl) | lia | omega), CapL.cap (.cons (by (first | kernel_rfl | decide +kernel)) (by rfl) (by rfl) Fzd.same .nil), .inl rfl, fun C okc d hd => ?_, fun C okc d hd _ => Ev.name (by rfl)⟩)) ⟨xs.filter fun z => z != t, by rw [List.map_id, filter_int], rfl, Nat.le_trans (List.length_filter_le _ _) (by (first | assumption | exact Nat.le_of_ble_eq_true rfl | exact Nat.add_le_add_left (Nat.le_of_ble_eq_true rfl) _ | exact Nat.le_trans (by assumption) (Nat.le_of_ble_eq_true rfl) | lia | omega)), fun z hz => hyv.2 z (List.mem_filter.mp hz).1⟩
          obtain ⟨z, hz, rfl⟩ := List.mem_map.mp hd
          exact Tst.one (Te.cmp (Ev.name (d := .int z) (by rfl)) (Ev.name (d := .int t) (by rfl)) Op2.neInt)
        · exact Eg.of (Ev.ifF (Te.cast (Te.cmp (Ev.name (d := .int t) (by rfl)) hit (Op2.inLstInt .lst)) (by simpa using hin)) (Ev.binop hit (Ev.list (Es.cons (Ev.name (d := .int t) (by rfl)) Es.nil)) (Op2.addLst .lst .lst (by rw [List.length_map]; have := hyv.1; simp; (first | assumption | exact Nat.le_of_ble_eq_true rfl | exact Nat.add_le_add_left (Nat.le_of_ble_eq_true rfl) _ | exact Nat.le_trans (by assumption) (Nat.le_of_ble_eq_true rfl) | lia | omega))))) ⟨xs ++ [t], by simp, rfl, by rw [List.length_append]; have := hyv.1; simp; (first | assumption | exact Nat.le_of_ble_eq_true rfl | exact Nat.add_le_add_left (Nat.le_of_ble_eq_true rfl) _ | exact Nat.le_trans (by assumption) (Nat.le_of_ble_eq_true rfl) | lia | omega), fun z hz => by
            rcases List.mem_append.mp hz with h1 | h1
            · exact hyv.2 z h1
            · rw [List.mem_singleton.mp h1]; exact ⟨g1, g2⟩⟩
      · obtain ⟨xs', rfl, rfl, hl1, hl2⟩ := hd'
        have hkl : (hasV hs').length ≤ 10000 := by
          have := congrArg List.length ho'.keys
          simp only [List.length_map] at this
          rw [hasV, List.length_map]; (first | assumption | exact Nat.le_of_ble_eq_true rfl | exact Nat.add_le_add_left (Nat.le_of_ble_eq_true rfl) _ | exact Nat.le_trans (by assumption) (Nat.le_of_ble_eq_true rfl) | lia | omega)
        refine ⟨h, x, hasV hs', [(a, O.dict (feedV cs (s' + 2)))], [], _, Ev.name hr2.has, Ev.name (by rfl), hkl, ?_⟩
        rw [setH_eq hxk]
        exact Sx.nil ⟨setH hs' x xs', s' + 2, hr2, rfl, (ho'.le fun y => (by (first | assumption | exact Nat.le_of_ble_eq_true rfl | exact Nat.add_le_add_left (Nat.le_of_ble_eq_true rfl) _ | exact Nat.le_trans (by assumption) (Nat.le_of_ble_eq_true rfl) | lia | omega) : B y + j ≤ B y + (j + 1))).set hl1 hl2, by (first | assumption | exact Nat.le_of_ble_eq_true rfl | exact Nat.add_le_add_left (Nat.le_of_ble_eq_true rfl) _ | exact Nat.le_trans (by assumption) (Nat.le_of_ble_eq_true rfl) | lia | omega)⟩
    · intro p hp
      simp only [List.mem_cons, List.not_mem_nil, or_false] at hp
      rcases hp with rfl | rfl
      · exact .inl (by rfl)
      · exact .inr ⟨by rfl, by rfl⟩
  · rintro ρ' own' ⟨hs', s', hr', rfl, ho', hsl⟩
    have e : (upto (drw cs s 3).toNat).length = (drw cs s 3).toNat := by simp [upto]
    rw [e] at ho' hsl
    refine Sx.perm (List.Perm.swap _ _ _) (Sx.cons (S1.retD (Ev.name hr'.has) hpk (hN hs' s' (ho'.le fun y => by (first | assumption | exact Nat.le_of_ble_eq_true rfl | exact Nat.add_le_add_left (Nat.le_of_ble_eq_true rfl) _ | exact Nat.le_trans (by assumption) (Nat.le_of_ble_eq_true rfl) | lia | omega)) (by (first | assumption | exact Nat.le_of_ble_eq_true rfl | exact Nat.add_le_add_left (Nat.le_of_ble_eq_true rfl) _ | exact Nat.le_trans (by assumption) (Nat.le_of_ble_eq_true rfl) | lia | omega)))))
end
end Mine
end
section
open PySem PySem.W PyProof.Rows PySem.MeetsSeq PySem.SeqAt
set_option maxRecDepth 100000
namespace Mine

theorem P_world : Params (top 55) ["feed", "plan"] where
  kind := by rfl
  co := by rfl
  gen := by rfl
  bind := fun fd us hp hd hk hl => by
    obtain ⟨u, v, rfl⟩ := us2 hl; cases fd; dsimp only at hp hd hk; subst hp hd hk; rfl
  par := by (first | kernel_rfl | decide +kernel)
  kinds := by
    intro x hx
    simp only [List.mem_cons, List.not_mem_nil, or_false] at hx
    rcases hx with rfl | rfl
    · exact .inl (by rfl)
    · exact .inr ⟨by rfl, by (first | kernel_rfl | decide +kernel)⟩

section
variable {w : World} {H Z : Heap} {n : Nat} {pk : List Addr} {env : Env} {ρ ρc : Names} {o₀ o₁ o₂ o₃ own own₁ own₂ F : Own} {N : Names → Own → Prop} {R : V → Own → Prop} {sts : List Stmt} {st : Stmt}

theorem elder_test {P : List Lab} {l : Lab} (hl : l ∈ P) {cenv : Env} {ρ' : Names} {p1 p2 p3 p4 p5 p6 p7 : Pos} (h1 : ρ' "plan" = some (.dct (planV P))) (h2 : ρ' "one" = some (.str l.name)) :
    Te w H n cenv ρ' [] (.Compare (.Subscript (.Subscript (.Name "plan" p1) (.Name "one" p2) p3) (.Constant (.int 1) 0 p4) p5) [.Eq] [.Tuple [] 0 p6] p7) (partsNil P (.str l.name)) [] := by
  obtain ⟨l', h3, h4, h5⟩ := find_mem hl
  have e : partsNil P (.str l.name) = (l'.parts.map V.str).isEmpty := by simp [partsNil, h3]
  rw [e]
  exact Te.cmp (Ev.sub (Ev.sub (Ev.name h1) (Ev.name h2) (Op2.subDct .dct (by rw [lookV_plan, h3]; rfl))) Ev.constInt (Op2.subTup (by decide) (by rfl))) (Ev.tuple Es.nil) Op2.eqTupNil

noncomputable abbrev IWa (a h : Addr) (P : List Lab) (cs : List Int) (s : Nat) : Nat → Names → Own → Prop := fun i ρ' own' => ∃ hs : HL, Wr ρ' a h P ∧ own' = wOwn a h cs s hs ∧ hs.map (·.1) = (names P).take i ∧ ∀ y ∈ hs, y.2.2 = [] ∧ y.2.1 ∉ [a]
noncomputable abbrev IWb (a h : Addr) (P : List Lab) (cs : List Int) (s : Nat) (hs : HL) : Nat → Names → Own → Prop := fun i ρ' own' => ∃ hs' s', Wr ρ' a h P ∧ own' = wOwn a h cs s' hs' ∧ HsOk P hs' (fun _ => i) ∧ hs'.map (·.2.1) = hs.map (·.2.1) ∧ s' ≤ s + 9 * i
noncomputable abbrev GWorld (a : Addr) (P : List Lab) (cs : List Int) (s : Nat) : V → Own → Prop := fun d o => ∃ hs s', HsOk P hs (fun _ => 10) ∧ s' ≤ s + 80 ∧ d = .dct (hasV hs) ∧ o = [(a, .dict (feedV cs s'))]
theorem world_fn {a f fd fb : Addr} {cs : List Int} {P : List Lab} {s : Nat} {mg mb : Str → Option Value} (Gv : Gl H mg mb) (Bl : Blts mg mb) (D : DefAt H f (top 55)) (Hd : Has H mg "_law_draw" (top 52) fd) (Hb : Has H mg "_law_below" (top 54) fb) (hW : Wf P) (hP : P.length ≤ 8) (hP0 : 0 < P.length) (hs0 : s ≤ 1000) (hc : cs.length ≤ 1000) :
    Fr' w H (n + 3) (.ref f) [(a, .dict (feedV cs s))] [.raw (.ref a), .dct (planV P)] (GWorld a P cs s) := by
  refine Fr'.enter Gv D P_world rfl fun L q cd ok => ?_
  have hpl2 : (planV P).length = P.length := by simp [planV]
  have htl : (tall P).length ≤ 8 := by unfold tall; rw [List.length_map]; exact Nat.le_trans (List.length_filter_le _ _) hP
  refine Sx.cons (S1.tupN (l := [("has", _), ("tall", _)]) (Eg.tuple (Egs.cons (Eg.dict Gv fun h hh1 hh2 => Egs.cons (Eg.of (Ev.cast (d' := .lst ((tall P).map .str)) (Ev.comp (F := []) (x := "one") (Src.of (Ev.name (d := .dct (planV P)) (by rfl)) (Itr.dct .dct) (List.nil_sublist _)) (List.nil_sublist _) (p := partsNil P) (f := id) (ρc := capρ [("plan", .dct (planV P))])
      ⟨CompOk.of (by (first | kernel_rfl | decide +kernel)), by rw [keys_plan, List.length_map]; (first | assumption | exact Nat.le_of_ble_eq_true rfl | exact Nat.add_le_add_left (Nat.le_of_ble_eq_true rfl) _ | exact Nat.le_trans (by assumption) (Nat.le_of_ble_eq_true rfl) | lia | omega), CapL.cap (.cons (by (first | kernel_rfl | decide +kernel)) (by rfl) (by rfl) Fzd.same .nil), .inl rfl, fun C okc d hd => ?_, fun C okc d hd _ => Ev.name (by rfl)⟩) ?_) (Egs.nil ⟨by simp, _, rfl, rfl, ?_⟩))))) ?_)
  · rw [keys_plan] at hd
    obtain ⟨l, hl, rfl⟩ := List.mem_map.mp hd
    exact Tst.one (elder_test hl (by rfl) (by rfl))
  · rw [keys_plan, List.map_id]; exact congrArg V.lst (tall_eq hW)
  · change Sx w H (n + 2) [a] (wEnv L f q cd) ((top 55).2.1.drop 1) (upd (upd (argsρ ["feed", "plan"] [.raw (.ref a), .dct (planV P)]) "has" (.raw (.ref h))) "tall" (.lst ((tall P).map .str))) [(h, .dict []), (a, .dict (feedV cs s))] _ _
    refine Sx.perm (List.Perm.swap _ _ _) ?_
    have hr0 : Wr (upd (upd (argsρ ["feed", "plan"] [.raw (.ref a), .dct (planV P)]) "has" (.raw (.ref h))) "tall" (.lst ((tall P).map .str))) a h P := ⟨by rfl, by rfl, by rfl, by rfl⟩
    generalize upd (upd (argsρ ["feed", "plan"] [.raw (.ref a), .dct (planV P)]) "has" (.raw (.ref h))) "tall" (.lst ((tall P).map .str)) = ρ0 at hr0
    refine Sx.cons (S1.for (IWa a h P cs s)
      (Src.of (Ev.name hr0.plan) (Itr.dct .dct) (List.nil_sublist _)) (.inl (by rfl)) ⟨[], hr0, rfl, rfl, fun _ h => nomatch h⟩ ?_ ?_)
    · rintro i d hd ρ' own' ⟨hs, hr, rfl, hk, he⟩
      rw [keys_plan] at hd
      have hi : i < P.length := by have := (List.getElem?_eq_some_iff.mp hd).1; simpa using this
      have hd' : d = .str P[i].name := by rw [List.getElem?_map, List.getElem?_eq_getElem hi] at hd; exact (Option.some.inj hd).symm
      subst hd'
      have hnm : (names P)[i]? = some P[i].name := by rw [List.getElem?_map, List.getElem?_eq_getElem hi]; rfl
      have hnew : P[i].name ∉ hs.map (·.1) := by
        rw [hk]
        intro hm
        obtain ⟨j, hj, e⟩ := List.mem_iff_getElem.mp hm
        rw [List.length_take] at hj
        rw [List.getElem_take] at e
        have hj' : j < (names P).length := by (first | assumption | exact Nat.le_of_ble_eq_true rfl | exact Nat.add_le_add_left (Nat.le_of_ble_eq_true rfl) _ | exact Nat.le_trans (by assumption) (Nat.le_of_ble_eq_true rfl) | lia | omega)
        have hi' : i < (names P).length := by rw [List.length_map]; exact hi
        have e2 : (names P)[i] = P[i].name := by simp
        have := (List.getElem_inj (h₀ := hj') (h₁ := hi') hW.nodup).mp (e.trans e2.symm)
        (first | assumption | exact Nat.le_of_ble_eq_true rfl | exact Nat.add_le_add_left (Nat.le_of_ble_eq_true rfl) _ | exact Nat.le_trans (by assumption) (Nat.le_of_ble_eq_true rfl) | lia | omega)
      generalize P[i].name = x at hnm hnew
      have hkl : hs.length = i := by have := congrArg List.length hk; simp at this; (first | assumption | exact Nat.le_of_ble_eq_true rfl | exact Nat.add_le_add_left (Nat.le_of_ble_eq_true rfl) _ | exact Nat.le_trans (by assumption) (Nat.le_of_ble_eq_true rfl) | lia | omega)
      refine Sx.cons (S1.setD (Eg.list fun c hc1 hc2 => ⟨h, x, hasK hs, [(c, .list []), (a, O.dict (feedV cs s))], hasO hs, _, Ev.name hr.has, Ev.name (by rfl), by rw [hasK, List.length_map]; (first | assumption | exact Nat.le_of_ble_eq_true rfl | exact Nat.add_le_add_left (Nat.le_of_ble_eq_true rfl) _ | exact Nat.le_trans (by assumption) (Nat.le_of_ble_eq_true rfl) | lia | omega), ?_⟩))
      rw [storedV_new (by simpa [hasK] using hnew)]
      have pm : ([(c, O.list []), (a, O.dict (feedV cs s))] ++ (h, O.dict (hasK hs ++ [(x, V.raw (.ref c))])) :: hasO hs).Perm (wOwn a h cs s (hs ++ [(x, c, [])])) := by
        have e : wOwn a h cs s (hs ++ [(x, c, [])]) = ((a, O.dict (feedV cs s)) :: (h, O.dict (hasK hs ++ [(x, V.raw (.ref c))])) :: hasO hs) ++ [(c, O.list [])] := by simp [wOwn, hasK, hasO]
        rw [e]
        exact List.perm_append_comm (l₁ := [(c, O.list [])]) (l₂ := (a, O.dict (feedV cs s)) :: (h, O.dict (hasK hs ++ [(x, V.raw (.ref c))])) :: hasO hs)
      refine Sx.perm pm (Sx.nil ⟨hs ++ [(x, c, [])], ⟨hr.feed, hr.plan, hr.has, hr.tall⟩, rfl, ?_, fun y hy => ?_⟩)
      · rw [List.map_append, hk, List.take_add_one, hnm]; rfl
      · rcases List.mem_append.mp hy with h1 | h1
        · exact he y h1
        · rw [List.mem_singleton.mp h1]; exact ⟨rfl, hc1⟩
    · rintro ρ1 own1 ⟨hs, hr, rfl, hk, he⟩
      rw [keys_plan, List.length_map] at hk
      have ho0 : HsOk P hs (fun _ => 0) := ⟨by rw [hk, show P.length = (names P).length by simp, List.take_length], fun y hy => by rw [(he y hy).1]; exact ⟨Nat.le_refl _, fun _ h => nomatch h⟩⟩
      have had : ∀ y ∈ hs.map (·.2.1), y ∉ [a] := fun y hy => by obtain ⟨z, hz, rfl⟩ := List.mem_map.mp hy; exact (he z hz).2
      have d4 : (upto 4).length = 4 := rfl
      refine Sx.cons (S1.for (IWb a h P cs s hs)
        (Src.of (Ev.call (o₁ := []) (o₂ := []) (o₃ := []) (r := wOwn a h cs s hs) (Ev.blt Gv (by rfl) Bl.range.1 Bl.range.2) (Es.cons Ev.constInt Es.nil) (.type _) Fn.range) (Itr.rng (k := 4) (by decide)) (List.nil_sublist _)) (.inr ⟨by rfl, by rfl⟩) ⟨hs, s, hr, rfl, ho0, rfl, by (first | assumption | exact Nat.le_of_ble_eq_true rfl | exact Nat.add_le_add_left (Nat.le_of_ble_eq_true rfl) _ | exact Nat.le_trans (by assumption) (Nat.le_of_ble_eq_true rfl) | lia | omega)⟩ ?_ ?_)
      · rintro i d hd ρ' own' ⟨hs', s', hr', rfl, ho', hads, hsl⟩
        obtain ⟨hi, rfl⟩ := upto_at hd
        have hra : Wr (upd ρ' "atom" (.int (i : Int))) a h P := ⟨hr'.feed, hr'.plan, hr'.has, hr'.tall⟩
        have htp : 0 < (tall P).length := List.length_pos_iff.mpr (hW.tall_ne hP0)
        have d1 := drw_lo (cs := cs) (s := s') (wide := ((tall P).length : Int)) (by (first | assumption | exact Nat.le_of_ble_eq_true rfl | exact Nat.add_le_add_left (Nat.le_of_ble_eq_true rfl) _ | exact Nat.le_trans (by assumption) (Nat.le_of_ble_eq_true rfl) | lia | omega))
        have d2 := drw_hi (cs := cs) (s := s') (wide := ((tall P).length : Int)) (by (first | assumption | exact Nat.le_of_ble_eq_true rfl | exact Nat.add_le_add_left (Nat.le_of_ble_eq_true rfl) _ | exact Nat.le_trans (by assumption) (Nat.le_of_ble_eq_true rfl) | lia | omega))
        have hj : (drw cs s' ((tall P).length : Int)).toNat < (tall P).length := by (first | assumption | exact Nat.le_of_ble_eq_true rfl | exact Nat.add_le_add_left (Nat.le_of_ble_eq_true rfl) _ | exact Nat.le_trans (by assumption) (Nat.le_of_ble_eq_true rfl) | lia | omega)
        obtain ⟨l, hl, hle⟩ : ∃ l ∈ P, l.name = (tall P)[(drw cs s' ((tall P).length : Int)).toNat] := by
          have := List.getElem_mem hj
          obtain ⟨l, h1, h2⟩ := List.mem_map.mp this
          exact ⟨l, (List.mem_filter.mp h1).1, h2⟩
        refine Sx.cons (S1.assign (d := .str l.name) (Ev.sub (Ev.name hra.tall) (Ev.draw (n := n + 1) Gv Bl Hd (wide := ((tall P).length : Int)) (by (first | assumption | exact Nat.le_of_ble_eq_true rfl | exact Nat.add_le_add_left (Nat.le_of_ble_eq_true rfl) _ | exact Nat.le_trans (by assumption) (Nat.le_of_ble_eq_true rfl) | lia | omega)) (by (first | assumption | exact Nat.le_of_ble_eq_true rfl | exact Nat.add_le_add_left (Nat.le_of_ble_eq_true rfl) _ | exact Nat.le_trans (by assumption) (Nat.le_of_ble_eq_true rfl) | lia | omega)) hc (by rfl) hra.feed
          (Ev.call (o₁ := []) (o₂ := []) (r := wOwn a h cs s' hs') (Ev.blt Gv (by rfl) Bl.len.1 Bl.len.2) (Es.cons (Ev.name hra.tall) Es.nil) (.builtin _) (Fn.cast (Fn.lenL .lst (by rw [List.length_map]; (first | assumption | exact Nat.le_of_ble_eq_true rfl | exact Nat.add_le_add_left (Nat.le_of_ble_eq_true rfl) _ | exact Nat.le_trans (by assumption) (Nat.le_of_ble_eq_true rfl) | lia | omega))) (by rw [List.length_map]))))
          (Op2.subLst .lst d1 (by rw [List.getElem?_map, List.getElem?_eq_getElem hj]; exact congrArg (fun z => some (V.str z)) hle.symm) (by (first | assumption | exact Nat.le_of_ble_eq_true rfl | exact Nat.add_le_add_left (Nat.le_of_ble_eq_true rfl) _ | exact Nat.le_trans (by assumption) (Nat.le_of_ble_eq_true rfl) | lia | omega)))) (.inl (by rfl)) ?_)
        have hrl : Wr (upd (upd ρ' "atom" (.int (i : Int))) "label" (.str l.name)) a h P := ⟨hr'.feed, hr'.plan, hr'.has, hr'.tall⟩
        refine world_down (s := s' + 1) (hs := hs') (t := (i : Int)) Gv Bl Hd Hb hW hP (by (first | assumption | exact Nat.le_of_ble_eq_true rfl | exact Nat.add_le_add_left (Nat.le_of_ble_eq_true rfl) _ | exact Nat.le_trans (by assumption) (Nat.le_of_ble_eq_true rfl) | lia | omega)) hc hrl (by rfl) hl (by rfl) (fun ρ2 l2 s2 hr2 hat2 hl2 hla2 hs2 => ?_) _ rfl
        refine world_up (t := (i : Int)) (B := fun _ => i) hW hP (fun _ => by (first | assumption | exact Nat.le_of_ble_eq_true rfl | exact Nat.add_le_add_left (Nat.le_of_ble_eq_true rfl) _ | exact Nat.le_trans (by assumption) (Nat.le_of_ble_eq_true rfl) | lia | omega)) ⟨by (first | assumption | exact Nat.le_of_ble_eq_true rfl | exact Nat.add_le_add_left (Nat.le_of_ble_eq_true rfl) _ | exact Nat.le_trans (by assumption) (Nat.le_of_ble_eq_true rfl) | lia | omega), by (first | assumption | exact Nat.le_of_ble_eq_true rfl | exact Nat.add_le_add_left (Nat.le_of_ble_eq_true rfl) _ | exact Nat.le_trans (by assumption) (Nat.le_of_ble_eq_true rfl) | lia | omega)⟩ hr2 hla2 hl2 hat2 ho' (fun ρ3 hs3 hr3 ho3 had3 => ⟨hs3, s2, hr3, rfl, ho3, had3.trans hads, by (first | assumption | exact Nat.le_of_ble_eq_true rfl | exact Nat.add_le_add_left (Nat.le_of_ble_eq_true rfl) _ | exact Nat.le_trans (by assumption) (Nat.le_of_ble_eq_true rfl) | lia | omega)⟩)
      · rintro ρ2 own2 ⟨hs', s', hr', rfl, ho', hads, hsl⟩
        rw [d4] at ho' hsl
        refine world_parts (B := fun _ => 4) Gv Bl Hd hW hP (fun _ => by (first | assumption | exact Nat.le_of_ble_eq_true rfl | exact Nat.add_le_add_left (Nat.le_of_ble_eq_true rfl) _ | exact Nat.le_trans (by assumption) (Nat.le_of_ble_eq_true rfl) | lia | omega)) (by (first | assumption | exact Nat.le_of_ble_eq_true rfl | exact Nat.add_le_add_left (Nat.le_of_ble_eq_true rfl) _ | exact Nat.le_trans (by assumption) (Nat.le_of_ble_eq_true rfl) | lia | omega)) hc hr' ho' (fun ρ3 hs3 s3 hr3 ho3 had3 hs3l => ?_) _ rfl
        have hf : ∀ y ∈ hs3, y.2.1 ∉ [a] := fun y hy => had _ (by rw [← hads, ← had3]; exact List.mem_map_of_mem (f := fun h : Str × Addr × List Int => h.2.1) hy)
        refine Sx.freezeAll (done := []) hf ?_
        refine world_turns (B := fun _ => 8) Gv Bl Hd hW hP hP0 (fun _ => by (first | assumption | exact Nat.le_of_ble_eq_true rfl | exact Nat.add_le_add_left (Nat.le_of_ble_eq_true rfl) _ | exact Nat.le_trans (by assumption) (Nat.le_of_ble_eq_true rfl) | lia | omega)) (by (first | assumption | exact Nat.le_of_ble_eq_true rfl | exact Nat.add_le_add_left (Nat.le_of_ble_eq_true rfl) _ | exact Nat.le_trans (by assumption) (Nat.le_of_ble_eq_true rfl) | lia | omega)) hc hr3 ho3 hh1 fun hs4 s4 ho4 hs4l => ⟨[(a, O.dict (feedV cs s4))], [], rfl, rfl, hs4, s4, ho4, by (first | assumption | exact Nat.le_of_ble_eq_true rfl | exact Nat.add_le_add_left (Nat.le_of_ble_eq_true rfl) _ | exact Nat.le_trans (by assumption) (Nat.le_of_ble_eq_true rfl) | lia | omega), rfl, rfl⟩
  · intro p hp
    simp only [List.mem_cons, List.not_mem_nil, or_false] at hp
    rcases hp with rfl | rfl
    · exact .inr ⟨by rfl, by rfl⟩
    · exact .inl (by rfl)
end
end Mine
end
section
open PySem PySem.W PyProof.Rows PySem.MeetsSeq PySem.SeqAt
set_option maxRecDepth 100000
namespace Mine

theorem P_united : Params (top 2) ["exprs"] where
  kind := by rfl
  co := by rfl
  gen := by rfl
  bind := fun fd us hp hd hk hl => by
    obtain ⟨u0, rfl⟩ := us1 hl; cases fd; dsimp only at hp hd hk; subst hp hd hk; rfl
  par := by (first | kernel_rfl | decide +kernel)
  kinds := by
    intro x hx
    simp only [List.mem_cons, List.not_mem_nil, or_false] at hx
    rcases hx with rfl
    · exact .inl (by rfl)
theorem P_relation : Params (top 4) ["opener", "name"] where
  kind := by rfl
  co := by rfl
  gen := by rfl
  bind := fun fd us hp hd hk hl => by
    obtain ⟨u0, u1, rfl⟩ := us2 hl; cases fd; dsimp only at hp hd hk; subst hp hd hk; rfl
  par := by (first | kernel_rfl | decide +kernel)
  kinds := by
    intro x hx
    simp only [List.mem_cons, List.not_mem_nil, or_false] at hx
    rcases hx with rfl | rfl
    · exact .inl (by rfl)
    · exact .inl (by rfl)
theorem P_place : Params (top 5) ["signatures", "opener", "name"] where
  kind := by rfl
  co := by rfl
  gen := by rfl
  bind := fun fd us hp hd hk hl => by
    obtain ⟨u0, u1, u2, rfl⟩ := us3 hl; cases fd; dsimp only at hp hd hk; subst hp hd hk; rfl
  par := by (first | kernel_rfl | decide +kernel)
  kinds := by
    intro x hx
    simp only [List.mem_cons, List.not_mem_nil, or_false] at hx
    rcases hx with rfl | rfl | rfl
    · exact .inl (by rfl)
    · exact .inr ⟨by rfl, by (first | kernel_rfl | decide +kernel)⟩
    · exact .inl (by rfl)
theorem P_children_formulas : Params (top 6) ["signatures", "opener", "name"] where
  kind := by rfl
  co := by rfl
  gen := by rfl
  bind := fun fd us hp hd hk hl => by
    obtain ⟨u0, u1, u2, rfl⟩ := us3 hl; cases fd; dsimp only at hp hd hk; subst hp hd hk; rfl
  par := by (first | kernel_rfl | decide +kernel)
  kinds := by
    intro x hx
    simp only [List.mem_cons, List.not_mem_nil, or_false] at hx
    rcases hx with rfl | rfl | rfl
    · exact .inl (by rfl)
    · exact .inr ⟨by rfl, by (first | kernel_rfl | decide +kernel)⟩
    · exact .inl (by rfl)
theorem P_set_of : Params (top 14) ["tuples"] where
  kind := by rfl
  co := by rfl
  gen := by rfl
  bind := fun fd us hp hd hk hl => by
    obtain ⟨u0, rfl⟩ := us1 hl; cases fd; dsimp only at hp hd hk; subst hp hd hk; rfl
  par := by (first | kernel_rfl | decide +kernel)
  kinds := by
    intro x hx
    simp only [List.mem_cons, List.not_mem_nil, or_false] at hx
    rcases hx with rfl
    · exact .inl (by rfl)
theorem P_union : Params (top 18) ["s", "t"] where
  kind := by rfl
  co := by rfl
  gen := by rfl
  bind := fun fd us hp hd hk hl => by
    obtain ⟨u0, u1, rfl⟩ := us2 hl; cases fd; dsimp only at hp hd hk; subst hp hd hk; rfl
  par := by (first | kernel_rfl | decide +kernel)
  kinds := by
    intro x hx
    simp only [List.mem_cons, List.not_mem_nil, or_false] at hx
    rcases hx with rfl | rfl
    · exact .inl (by rfl)
    · exact .inl (by rfl)
theorem P_meet : Params (top 19) ["s", "t"] where
  kind := by rfl
  co := by rfl
  gen := by rfl
  bind := fun fd us hp hd hk hl => by
    obtain ⟨u0, u1, rfl⟩ := us2 hl; cases fd; dsimp only at hp hd hk; subst hp hd hk; rfl
  par := by (first | kernel_rfl | decide +kernel)
  kinds := by
    intro x hx
    simp only [List.mem_cons, List.not_mem_nil, or_false] at hx
    rcases hx with rfl | rfl
    · exact .inl (by rfl)
    · exact .inl (by rfl)
theorem P_minus : Params (top 20) ["s", "t"] where
  kind := by rfl
  co := by rfl
  gen := by rfl
  bind := fun fd us hp hd hk hl => by
    obtain ⟨u0, u1, rfl⟩ := us2 hl; cases fd; dsimp only at hp hd hk; subst hp hd hk; rfl
  par := by (first | kernel_rfl | decide +kernel)
  kinds := by
    intro x hx
    simp only [List.mem_cons, List.not_mem_nil, or_false] at hx
    rcases hx with rfl | rfl
    · exact .inl (by rfl)
    · exact .inl (by rfl)
theorem P_within : Params (top 21) ["s", "t"] where
  kind := by rfl
  co := by rfl
  gen := by rfl
  bind := fun fd us hp hd hk hl => by
    obtain ⟨u0, u1, rfl⟩ := us2 hl; cases fd; dsimp only at hp hd hk; subst hp hd hk; rfl
  par := by (first | kernel_rfl | decide +kernel)
  kinds := by
    intro x hx
    simp only [List.mem_cons, List.not_mem_nil, or_false] at hx
    rcases hx with rfl | rfl
    · exact .inl (by rfl)
    · exact .inl (by rfl)
theorem P_ev_init : Params (mem 32 0) ["self", "many", "instance"] where
  kind := by rfl
  co := by rfl
  gen := by rfl
  bind := fun fd us hp hd hk hl => by
    obtain ⟨u0, u1, u2, rfl⟩ := us3 hl; cases fd; dsimp only at hp hd hk; subst hp hd hk; rfl
  par := by (first | kernel_rfl | decide +kernel)
  kinds := by
    intro x hx
    simp only [List.mem_cons, List.not_mem_nil, or_false] at hx
    rcases hx with rfl | rfl | rfl
    · exact .inl (by rfl)
    · exact .inl (by rfl)
    · exact .inl (by rfl)
theorem P_ev_set : Params (mem 32 2) ["self", "expr", "env"] where
  kind := by rfl
  co := by rfl
  gen := by rfl
  bind := fun fd us hp hd hk hl => by
    obtain ⟨u0, u1, u2, rfl⟩ := us3 hl; cases fd; dsimp only at hp hd hk; subst hp hd hk; rfl
  par := by (first | kernel_rfl | decide +kernel)
  kinds := by
    intro x hx
    simp only [List.mem_cons, List.not_mem_nil, or_false] at hx
    rcases hx with rfl | rfl | rfl
    · exact .inr ⟨by rfl, by (first | kernel_rfl | decide +kernel)⟩
    · exact .inr ⟨by rfl, by (first | kernel_rfl | decide +kernel)⟩
    · exact .inl (by rfl)
theorem P_ev_two : Params (mem 32 4) ["self", "op", "s", "t"] where
  kind := by rfl
  co := by rfl
  gen := by rfl
  bind := fun fd us hp hd hk hl => by
    obtain ⟨u0, u1, u2, u3, rfl⟩ := us4 hl; cases fd; dsimp only at hp hd hk; subst hp hd hk; rfl
  par := by (first | kernel_rfl | decide +kernel)
  kinds := by
    intro x hx
    simp only [List.mem_cons, List.not_mem_nil, or_false] at hx
    rcases hx with rfl | rfl | rfl | rfl
    · exact .inl (by rfl)
    · exact .inl (by rfl)
    · exact .inl (by rfl)
    · exact .inl (by rfl)
theorem P_ev_truth : Params (mem 32 6) ["self", "f", "env"] where
  kind := by rfl
  co := by rfl
  gen := by rfl
  bind := fun fd us hp hd hk hl => by
    obtain ⟨u0, u1, u2, rfl⟩ := us3 hl; cases fd; dsimp only at hp hd hk; subst hp hd hk; rfl
  par := by (first | kernel_rfl | decide +kernel)
  kinds := by
    intro x hx
    simp only [List.mem_cons, List.not_mem_nil, or_false] at hx
    rcases hx with rfl | rfl | rfl
    · exact .inr ⟨by rfl, by (first | kernel_rfl | decide +kernel)⟩
    · exact .inr ⟨by rfl, by (first | kernel_rfl | decide +kernel)⟩
    · exact .inr ⟨by rfl, by (first | kernel_rfl | decide +kernel)⟩
theorem P_ev_many : Params (mem 32 8) ["self", "op", "many"] where
  kind := by rfl
  co := by rfl
  gen := by rfl
  bind := fun fd us hp hd hk hl => by
    obtain ⟨u0, u1, u2, rfl⟩ := us3 hl; cases fd; dsimp only at hp hd hk; subst hp hd hk; rfl
  par := by (first | kernel_rfl | decide +kernel)
  kinds := by
    intro x hx
    simp only [List.mem_cons, List.not_mem_nil, or_false] at hx
    rcases hx with rfl | rfl | rfl
    · exact .inl (by rfl)
    · exact .inl (by rfl)
    · exact .inl (by rfl)
theorem P_nm_init : Params (mem 46 0) ["self", "signatures", "kinds", "items", "numbers"] where
  kind := by rfl
  co := by rfl
  gen := by rfl
  bind := fun fd us hp hd hk hl => by
    obtain ⟨u0, u1, u2, u3, u4, rfl⟩ := us5 hl; cases fd; dsimp only at hp hd hk; subst hp hd hk; rfl
  par := by (first | kernel_rfl | decide +kernel)
  kinds := by
    intro x hx
    simp only [List.mem_cons, List.not_mem_nil, or_false] at hx
    rcases hx with rfl | rfl | rfl | rfl | rfl
    · exact .inl (by rfl)
    · exact .inl (by rfl)
    · exact .inl (by rfl)
    · exact .inl (by rfl)
    · exact .inl (by rfl)
theorem P_op_init : Params (mem 47 0) ["self", "signatures", "kinds", "items", "numbers"] where
  kind := by rfl
  co := by rfl
  gen := by rfl
  bind := fun fd us hp hd hk hl => by
    obtain ⟨u0, u1, u2, u3, u4, rfl⟩ := us5 hl; cases fd; dsimp only at hp hd hk; subst hp hd hk; rfl
  par := by (first | kernel_rfl | decide +kernel)
  kinds := by
    intro x hx
    simp only [List.mem_cons, List.not_mem_nil, or_false] at hx
    rcases hx with rfl | rfl | rfl | rfl | rfl
    · exact .inl (by rfl)
    · exact .inl (by rfl)
    · exact .inl (by rfl)
    · exact .inl (by rfl)
    · exact .inl (by rfl)
theorem P_sg_init : Params (mem 50 0) ["self", "items"] where
  kind := by rfl
  co := by rfl
  gen := by rfl
  bind := fun fd us hp hd hk hl => by
    obtain ⟨u0, u1, rfl⟩ := us2 hl; cases fd; dsimp only at hp hd hk; subst hp hd hk; rfl
  par := by (first | kernel_rfl | decide +kernel)
  kinds := by
    intro x hx
    simp only [List.mem_cons, List.not_mem_nil, or_false] at hx
    rcases hx with rfl | rfl
    · exact .inl (by rfl)
    · exact .inl (by rfl)
theorem P_sg_take : Params (mem 50 1) ["self", "item"] where
  kind := by rfl
  co := by rfl
  gen := by rfl
  bind := fun fd us hp hd hk hl => by
    obtain ⟨u0, u1, rfl⟩ := us2 hl; cases fd; dsimp only at hp hd hk; subst hp hd hk; rfl
  par := by (first | kernel_rfl | decide +kernel)
  kinds := by
    intro x hx
    simp only [List.mem_cons, List.not_mem_nil, or_false] at hx
    rcases hx with rfl | rfl
    · exact .inl (by rfl)
    · exact .inl (by rfl)
theorem P_sg_look : Params (mem 50 2) ["self", "name"] where
  kind := by rfl
  co := by rfl
  gen := by rfl
  bind := fun fd us hp hd hk hl => by
    obtain ⟨u0, u1, rfl⟩ := us2 hl; cases fd; dsimp only at hp hd hk; subst hp hd hk; rfl
  par := by (first | kernel_rfl | decide +kernel)
  kinds := by
    intro x hx
    simp only [List.mem_cons, List.not_mem_nil, or_false] at hx
    rcases hx with rfl | rfl
    · exact .inl (by rfl)
    · exact .inl (by rfl)
theorem P_sg_direct : Params (mem 50 3) ["self", "name"] where
  kind := by rfl
  co := by rfl
  gen := by rfl
  bind := fun fd us hp hd hk hl => by
    obtain ⟨u0, u1, rfl⟩ := us2 hl; cases fd; dsimp only at hp hd hk; subst hp hd hk; rfl
  par := by (first | kernel_rfl | decide +kernel)
  kinds := by
    intro x hx
    simp only [List.mem_cons, List.not_mem_nil, or_false] at hx
    rcases hx with rfl | rfl
    · exact .inl (by rfl)
    · exact .inl (by rfl)
theorem P_sg_first : Params (mem 50 4) ["self"] where
  kind := by rfl
  co := by rfl
  gen := by rfl
  bind := fun fd us hp hd hk hl => by
    obtain ⟨u0, rfl⟩ := us1 hl; cases fd; dsimp only at hp hd hk; subst hp hd hk; rfl
  par := by (first | kernel_rfl | decide +kernel)
  kinds := by
    intro x hx
    simp only [List.mem_cons, List.not_mem_nil, or_false] at hx
    rcases hx with rfl
    · exact .inr ⟨by rfl, by (first | kernel_rfl | decide +kernel)⟩
theorem P_sg_fields : Params (mem 50 5) ["self"] where
  kind := by rfl
  co := by rfl
  gen := by rfl
  bind := fun fd us hp hd hk hl => by
    obtain ⟨u0, rfl⟩ := us1 hl; cases fd; dsimp only at hp hd hk; subst hp hd hk; rfl
  par := by (first | kernel_rfl | decide +kernel)
  kinds := by
    intro x hx
    simp only [List.mem_cons, List.not_mem_nil, or_false] at hx
    rcases hx with rfl
    · exact .inl (by rfl)
theorem P_sg_lookf : Params (mem 50 6) ["self"] where
  kind := by rfl
  co := by rfl
  gen := by rfl
  bind := fun fd us hp hd hk hl => by
    obtain ⟨u0, rfl⟩ := us1 hl; cases fd; dsimp only at hp hd hk; subst hp hd hk; rfl
  par := by (first | kernel_rfl | decide +kernel)
  kinds := by
    intro x hx
    simp only [List.mem_cons, List.not_mem_nil, or_false] at hx
    rcases hx with rfl
    · exact .inl (by rfl)
theorem P_sg_parent : Params (mem 50 11) ["self", "name"] where
  kind := by rfl
  co := by rfl
  gen := by rfl
  bind := fun fd us hp hd hk hl => by
    obtain ⟨u0, u1, rfl⟩ := us2 hl; cases fd; dsimp only at hp hd hk; subst hp hd hk; rfl
  par := by (first | kernel_rfl | decide +kernel)
  kinds := by
    intro x hx
    simp only [List.mem_cons, List.not_mem_nil, or_false] at hx
    rcases hx with rfl | rfl
    · exact .inl (by rfl)
    · exact .inl (by rfl)
theorem P_sg_supers : Params (mem 50 12) ["self", "name"] where
  kind := by rfl
  co := by rfl
  gen := by rfl
  bind := fun fd us hp hd hk hl => by
    obtain ⟨u0, u1, rfl⟩ := us2 hl; cases fd; dsimp only at hp hd hk; subst hp hd hk; rfl
  par := by (first | kernel_rfl | decide +kernel)
  kinds := by
    intro x hx
    simp only [List.mem_cons, List.not_mem_nil, or_false] at hx
    rcases hx with rfl | rfl
    · exact .inl (by rfl)
    · exact .inl (by rfl)
theorem P_sg_subset : Params (mem 50 13) ["self", "name"] where
  kind := by rfl
  co := by rfl
  gen := by rfl
  bind := fun fd us hp hd hk hl => by
    obtain ⟨u0, u1, rfl⟩ := us2 hl; cases fd; dsimp only at hp hd hk; subst hp hd hk; rfl
  par := by (first | kernel_rfl | decide +kernel)
  kinds := by
    intro x hx
    simp only [List.mem_cons, List.not_mem_nil, or_false] at hx
    rcases hx with rfl | rfl
    · exact .inl (by rfl)
    · exact .inl (by rfl)
theorem P_sg_children : Params (mem 50 14) ["self", "name"] where
  kind := by rfl
  co := by rfl
  gen := by rfl
  bind := fun fd us hp hd hk hl => by
    obtain ⟨u0, u1, rfl⟩ := us2 hl; cases fd; dsimp only at hp hd hk; subst hp hd hk; rfl
  par := by (first | kernel_rfl | decide +kernel)
  kinds := by
    intro x hx
    simp only [List.mem_cons, List.not_mem_nil, or_false] at hx
    rcases hx with rfl | rfl
    · exact .inr ⟨by rfl, by (first | kernel_rfl | decide +kernel)⟩
    · exact .inr ⟨by rfl, by (first | kernel_rfl | decide +kernel)⟩
theorem P_sg_abstract : Params (mem 50 18) ["self", "name"] where
  kind := by rfl
  co := by rfl
  gen := by rfl
  bind := fun fd us hp hd hk hl => by
    obtain ⟨u0, u1, rfl⟩ := us2 hl; cases fd; dsimp only at hp hd hk; subst hp hd hk; rfl
  par := by (first | kernel_rfl | decide +kernel)
  kinds := by
    intro x hx
    simp only [List.mem_cons, List.not_mem_nil, or_false] at hx
    rcases hx with rfl | rfl
    · exact .inl (by rfl)
    · exact .inl (by rfl)
theorem P_sg_mult : Params (mem 50 19) ["self", "name"] where
  kind := by rfl
  co := by rfl
  gen := by rfl
  bind := fun fd us hp hd hk hl => by
    obtain ⟨u0, u1, rfl⟩ := us2 hl; cases fd; dsimp only at hp hd hk; subst hp hd hk; rfl
  par := by (first | kernel_rfl | decide +kernel)
  kinds := by
    intro x hx
    simp only [List.mem_cons, List.not_mem_nil, or_false] at hx
    rcases hx with rfl | rfl
    · exact .inl (by rfl)
    · exact .inl (by rfl)
theorem P_placed : Params (top 56) ["plan", "has", "label"] where
  kind := by rfl
  co := by rfl
  gen := by rfl
  bind := fun fd us hp hd hk hl => by
    obtain ⟨u0, u1, u2, rfl⟩ := us3 hl; cases fd; dsimp only at hp hd hk; subst hp hd hk; rfl
  par := by (first | kernel_rfl | decide +kernel)
  kinds := by
    intro x hx
    simp only [List.mem_cons, List.not_mem_nil, or_false] at hx
    rcases hx with rfl | rfl | rfl
    · exact .inl (by rfl)
    · exact .inr ⟨by rfl, by (first | kernel_rfl | decide +kernel)⟩
    · exact .inl (by rfl)
theorem P_parted : Params (top 57) ["plan", "has", "label"] where
  kind := by rfl
  co := by rfl
  gen := by rfl
  bind := fun fd us hp hd hk hl => by
    obtain ⟨u0, u1, u2, rfl⟩ := us3 hl; cases fd; dsimp only at hp hd hk; subst hp hd hk; rfl
  par := by (first | kernel_rfl | decide +kernel)
  kinds := by
    intro x hx
    simp only [List.mem_cons, List.not_mem_nil, or_false] at hx
    rcases hx with rfl | rfl | rfl
    · exact .inl (by rfl)
    · exact .inr ⟨by rfl, by (first | kernel_rfl | decide +kernel)⟩
    · exact .inl (by rfl)
theorem P_hold : Params (top 58) ["evaluator", "formulas"] where
  kind := by rfl
  co := by rfl
  gen := by rfl
  bind := fun fd us hp hd hk hl => by
    obtain ⟨u0, u1, rfl⟩ := us2 hl; cases fd; dsimp only at hp hd hk; subst hp hd hk; rfl
  par := by (first | kernel_rfl | decide +kernel)
  kinds := by
    intro x hx
    simp only [List.mem_cons, List.not_mem_nil, or_false] at hx
    rcases hx with rfl | rfl
    · exact .inr ⟨by rfl, by (first | kernel_rfl | decide +kernel)⟩
    · exact .inl (by rfl)
theorem P_law : Params (top 59) ["script"] where
  kind := by rfl
  co := by rfl
  gen := by rfl
  bind := fun fd us hp hd hk hl => by
    obtain ⟨u0, rfl⟩ := us1 hl; cases fd; dsimp only at hp hd hk; subst hp hd hk; rfl
  par := by (first | kernel_rfl | decide +kernel)
  kinds := by
    intro x hx
    simp only [List.mem_cons, List.not_mem_nil, or_false] at hx
    rcases hx with rfl
    · exact .inl (by rfl)
end Mine
end
section
open PySem PySem.W PyProof.Rows PySem.MeetsSeq PySem.SeqAt
set_option maxRecDepth 100000
namespace Mine

/-- set expressions and formulas, as the text tells them -/
inductive X where
  | rel (n : Int)
  | uni (a b : X)
  | meet (a b : X)
noncomputable def X.v : X → V
  | .rel n => .tup [.str "rel", .int n]
  | .uni a b => .tup [.str "union", a.v, b.v]
  | .meet a b => .tup [.str "meet", a.v, b.v]
inductive Fo where
  | inn (a b : X)
  | mul (m : Str) (a : X)
noncomputable def Fo.v : Fo → V
  | .inn a b => .tup [.str "in", a.v, b.v]
  | .mul m a => .tup [.str m, a.v]
noncomputable def uniteF : Nat → List X → X
  | 0, xs => xs.headD (.rel 0)
  | k + 1, xs => bif Nat.ble xs.length 1 then xs.headD (.rel 0) else .uni (uniteF k (xs.take ((xs.length + 1) / 2))) (uniteF k (xs.drop ((xs.length + 1) / 2)))
noncomputable def unite (xs : List X) : X := uniteF xs.length xs
theorem half_lt {m : Nat} (h : 1 < m) : 0 < (m + 1) / 2 ∧ (m + 1) / 2 < m := by (first | assumption | exact Nat.le_of_ble_eq_true rfl | exact Nat.add_le_add_left (Nat.le_of_ble_eq_true rfl) _ | exact Nat.le_trans (by assumption) (Nat.le_of_ble_eq_true rfl) | lia | omega)
theorem uniteF_fuel : ∀ (k j : Nat) (xs : List X), xs.length ≤ k → xs.length ≤ j → uniteF k xs = uniteF j xs := by
  have one : ∀ (k : Nat) (xs : List X), xs.length ≤ 1 → uniteF k xs = xs.headD (.rel 0) := fun k xs h => by
    cases k with
    | zero => rfl
    | succ k => unfold uniteF; rw [Nat.ble_eq_true_of_le h]; rfl
  intro k
  induction k with
  | zero => exact fun j xs h _ => (one 0 xs (Nat.le_succ_of_le h)).trans (one j xs (Nat.le_succ_of_le h)).symm
  | succ k ih =>
    intro j xs h g
    by_cases e : xs.length ≤ 1
    · rw [one _ xs e, one _ xs e]
    · have e' := Nat.lt_of_not_le e
      obtain ⟨a, b⟩ := half_lt e'
      have cut : (xs.take ((xs.length + 1) / 2)).length ≤ (xs.length + 1) / 2 := by rw [List.length_take]; exact Nat.min_le_left _ _
      have rst : (xs.drop ((xs.length + 1) / 2)).length < xs.length := by rw [List.length_drop]; exact Nat.sub_lt (Nat.lt_trans Nat.zero_lt_one e') a
      cases j with
      | zero => exact absurd (Nat.le_trans g (Nat.zero_le 1)) e
      | succ j =>
        unfold uniteF
        rw [ih j _ (Nat.le_of_lt_succ (Nat.lt_of_lt_of_le (Nat.lt_of_le_of_lt cut b) h)) (Nat.le_of_lt_succ (Nat.lt_of_lt_of_le (Nat.lt_of_le_of_lt cut b) g)), ih j _ (Nat.le_of_lt_succ (Nat.lt_of_lt_of_le rst h)) (Nat.le_of_lt_succ (Nat.lt_of_lt_of_le rst g))]
theorem unite_two {xs : List X} (h : 1 < xs.length) : unite xs = .uni (unite (xs.take ((xs.length + 1) / 2))) (unite (xs.drop ((xs.length + 1) / 2))) := by
  have e : unite xs = uniteF (xs.length + 1) xs := uniteF_fuel _ _ _ (Nat.le_refl _) (Nat.le_succ _)
  rw [e]
  unfold uniteF
  rw [show Nat.ble xs.length 1 = false from by cases q : Nat.ble xs.length 1 with | false => rfl | true => exact absurd (Nat.le_of_ble_eq_true q) (Nat.not_le_of_lt h)]
  show X.uni _ _ = _
  rw [uniteF_fuel xs.length _ (xs.take ((xs.length + 1) / 2)) (by rw [List.length_take]; exact Nat.min_le_right _ _) (Nat.le_refl _), uniteF_fuel xs.length _ (xs.drop ((xs.length + 1) / 2)) (by rw [List.length_drop]; exact Nat.sub_le _ _) (Nat.le_refl _)]
  rfl
/-- what holds for one and goes over to two parts joined holds -/
theorem unite_ind {p : List X → X → Prop} (h1 : ∀ x, p [x] x) (h2 : ∀ xs ys a b, xs ≠ [] → ys ≠ [] → p xs a → p ys b → p (xs ++ ys) (.uni a b)) : ∀ (k : Nat) (xs : List X), xs.length ≤ k → 0 < xs.length → p xs (unite xs) := by
  intro k
  induction k with
  | zero => exact fun xs h g => absurd (Nat.lt_of_lt_of_le g h) (Nat.lt_irrefl 0)
  | succ k ih =>
    intro xs h g
    by_cases e : 1 < xs.length
    · obtain ⟨a, b⟩ := half_lt e
      rw [unite_two e]
      have la : (xs.take ((xs.length + 1) / 2)).length = (xs.length + 1) / 2 := by rw [List.length_take]; exact Nat.min_eq_left (Nat.le_of_lt b)
      have lb : (xs.drop ((xs.length + 1) / 2)).length = xs.length - (xs.length + 1) / 2 := List.length_drop
      have lb' := Nat.sub_pos_of_lt b
      have q := h2 _ _ _ _ (List.ne_nil_of_length_pos (by rw [la]; exact a)) (List.ne_nil_of_length_pos (by rw [lb]; exact lb')) (ih (xs.take ((xs.length + 1) / 2)) (by rw [la]; exact Nat.le_of_lt_succ (Nat.lt_of_lt_of_le b h)) (by rw [la]; exact a))
        (ih (xs.drop ((xs.length + 1) / 2)) (by rw [lb]; exact Nat.le_of_lt_succ (Nat.lt_of_lt_of_le (Nat.sub_lt g a) h)) (by rw [lb]; exact lb'))
      rwa [List.take_append_drop] at q
    · obtain ⟨x, rfl⟩ := List.length_eq_one_iff.mp (Nat.le_antisymm (Nat.le_of_not_lt e) g)
      exact h1 x

/-- a class whose instances hold their own attributes -/
structure InstCls (K : Frag) (C : Addr) (attrs : List Str) : Prop where
  ok : ClsOk K C
  set : ClsSet K C
  at_ : ∀ x, attrs.contains x = true → findIn K (.ref C) x = some none ∧ takerIn K C x = some none
structure MethAt (H : Heap) (K : Frag) (C : Addr) (name : Str) (d : Arguments × List Stmt × Scope) (f : Addr) : Prop where
  find : findIn K (.ref C) name = some (some (.ref f))
  at_ : DefAt H f d
  obj : ∃ ob fd, K.lookup f = some ob ∧ ob.cls = .type "function" ∧ ob.data = .func fd

section
variable {w : World} {H Z : Heap} {n : Nat} {pk : List Addr} {env : Env} {ρ ρc : Names} {o₀ o₁ o₂ o₃ own own₁ own₂ F : Own} {N : Names → Own → Prop} {R : V → Own → Prop} {sts : List Stmt} {st : Stmt} {mg mb : Str → Option Value} {K : Frag}

theorem half_int (j : Nat) : (((j + 1 : Nat) : Int) + 1).fdiv 2 = (((j + 1 + 1) / 2 : Nat) : Int) := rfl
theorem united_fn {f : Addr} (Gv : Gl H mg mb) (Bl : Blts mg mb) (Hu : Has H mg "united_implicit" (top 2) f) : ∀ (k : Nat) (xs : List X), xs.length = k → 0 < k → k ≤ 1000 → Fn w H (n + k) (.ref f) [] [.lst (xs.map X.v)] (unite xs).v [] := by
  intro k
  induction k using Nat.strongRecOn with
  | ind k ih =>
    intro xs hk h0 hz
    obtain ⟨j, rfl⟩ : ∃ j, k = j + 1 := ⟨k - 1, (Nat.sub_add_cancel h0).symm⟩
    have hk' : (xs.map X.v).length = j + 1 := by rw [List.length_map, hk]
    have hlen : ∀ {ρ : Names} {L q cd p1 p2 p3}, ρ "exprs" = some (.lst (xs.map X.v)) → Ev w H (n + j) (fenv (top 2).2.2 L f q cd) ρ [] (.Call (.Name "len" p1) [.Name "exprs" p2] [] p3) (.int ((j + 1 : Nat) : Int)) [] := fun {ρ L q cd p1 p2 p3} hρ =>
      Ev.call (o₁ := []) (o₂ := []) (o₃ := []) (r := []) (Ev.blt Gv (by rfl) Bl.len.1 Bl.len.2) (Es.cons (Ev.name hρ) Es.nil) (.builtin _) (Fn.cast (Fn.lenL .lst (by rw [hk']; exact Nat.le_trans hz (Nat.le_of_ble_eq_true rfl))) (by rw [hk']))
    refine Fn.enter (n := n + j) Gv Hu.at_ P_united rfl rfl fun L q cd ok => ?_
    refine Sx.cons (S1.ite (q := Nat.beq j 0) (Te.cast (Te.cmp (hlen (by rfl)) Ev.constInt Op2.eqInt) (by cases j <;> rfl)) ?_)
    cases j with
    | zero =>
      obtain ⟨x, rfl⟩ := List.length_eq_one_iff.mp hk
      exact Sx.cons (S1.ret (Ev.sub (Ev.name (d := .lst [x.v]) (by rfl)) Ev.constInt (Op2.subLst .lst (by decide) (by rfl))) ⟨rfl, [], rfl⟩)
    | succ j =>
      refine Sx.nil (Sx.cons (S1.assign (d := .int (((j + 1 + 1 + 1) / 2 : Nat) : Int)) (Ev.cast (Ev.binop (Ev.binop (hlen (by rfl)) Ev.constInt Op2.addInt) Ev.constInt (Op2.divInt (by decide) (by rfl))) (congrArg V.int (half_int _))) (.inl (by rfl)) ?_))
      have e := unite_two (xs := xs) (by rw [hk]; exact Nat.le_add_left 2 j)
      rw [hk] at e
      rw [e]
      obtain ⟨h1, h2⟩ := half_lt (Nat.le_add_left 2 j)
      revert h1 h2
      generalize (j + 1 + 1 + 1) / 2 = c
      intro h1 h2
      have la : (xs.take c).length = c := by rw [List.length_take, hk]; exact Nat.min_eq_left (Nat.le_of_lt h2)
      have lb : (xs.drop c).length = j + 1 + 1 - c := by rw [List.length_drop, hk]
      have i1 := (ih c h2 (xs.take c) la h1 (Nat.le_trans (Nat.le_of_lt h2) hz)).le (n := n + (j + 1)) (Nat.add_le_add_left (Nat.le_of_lt_succ h2) n)
      have lc : j + 1 + 1 - c ≤ j + 1 := Nat.le_of_lt_succ (Nat.sub_lt (Nat.succ_pos _) h1)
      have i2 := (ih (j + 1 + 1 - c) (Nat.lt_succ_of_le lc) (xs.drop c) lb (Nat.sub_pos_of_lt h2) (Nat.le_trans (Nat.sub_le _ _) hz)).le (n := n + (j + 1)) (Nat.add_le_add_left lc n)
      refine Sx.cons (S1.ret (Ev.tuple (Es.cons Ev.constStr (Es.cons (Ev.call (o₁ := []) (o₂ := []) (o₃ := []) (r := []) (Ev.glob Gv (by rfl) Hu.nm) (Es.cons (Ev.upto (d := .lst (xs.map X.v)) (k := c) (Ev.name (by rfl)) (Ev.name (by rfl)) .lst (by rw [hk']; exact Nat.le_trans hz (Nat.le_of_ble_eq_true rfl))) Es.nil) Hu.kind (by rw [← List.map_take]; exact i1)) (Es.cons (Ev.call (o₁ := []) (o₂ := []) (o₃ := []) (r := []) (Ev.glob Gv (by rfl) Hu.nm) (Es.cons (Ev.from (d := .lst (xs.map X.v)) (k := c) (Ev.name (by rfl)) (Ev.name (by rfl)) .lst (by rw [hk']; exact Nat.le_trans hz (Nat.le_of_ble_eq_true rfl))) Es.nil) Hu.kind (by rw [← List.map_drop]; exact i2)) Es.nil)))) ⟨rfl, [], rfl⟩)
end
end Mine
end
section
open PySem PySem.W PyProof.Rows PySem.MeetsSeq PySem.SeqAt
set_option maxRecDepth 100000
namespace Mine

noncomputable abbrev setV (xs : List Int) : V := .tup (xs.map one)
noncomputable def sUni (a b : List Int) : List Int := sortK (once [] (a ++ b))
noncomputable def sMeet (a b : List Int) : List Int := a.filter fun k => (once [] b).contains k
noncomputable def sMinus (a b : List Int) : List Int := a.filter fun k => !(once [] b).contains k
noncomputable def inOne (ks : List Int) : V → Bool
  | .tup [.int k] => ks.contains k
  | _ => false
theorem filter_one {ks xs : List Int} : (xs.map one).filter (inOne ks) = (xs.filter fun k => ks.contains k).map one := by
  induction xs with
  | nil => rfl
  | cons x xs ih =>
    rw [List.map_cons, List.filter_cons, List.filter_cons, ih]
    have : inOne ks (one x) = ks.contains x := rfl
    rw [this]; split <;> rfl
theorem filter_none {ks xs : List Int} : (xs.map one).filter (fun d => !inOne ks d) = (xs.filter fun k => !ks.contains k).map one := by
  induction xs with
  | nil => rfl
  | cons x xs ih =>
    rw [List.map_cons, List.filter_cons, List.filter_cons, ih]
    have : inOne ks (one x) = ks.contains x := rfl
    rw [this]; split <;> rfl
noncomputable def pairT (d : V) : V := .tup [d, .raw (.bool true)]
theorem pairs_one {xs : List Int} : ((xs.map one).filter fun _ => true).map pairT = xs.map fun k => .tup [one k, .raw (.bool true)] := by
  rw [List.filter_eq_self.mpr fun _ _ => rfl, List.map_map]; rfl

section
variable {w : World} {H Z : Heap} {n : Nat} {pk : List Addr} {env : Env} {ρ ρc : Names} {o₀ o₁ o₂ o₃ own own₁ own₂ F : Own} {N : Names → Own → Prop} {R : V → Own → Prop} {sts : List Stmt} {st : Stmt} {mg mb : Str → Option Value} {K : Frag}

theorem setof_fn {f : Addr} {xs : List Int} (Gv : Gl H mg mb) (Bl : Blts mg mb) (D : DefAt H f (top 14)) (h4 : (once [] xs).length ≤ 4) (hz : xs.length ≤ 1000) : Fn w H (n + 1) (.ref f) [] [setV xs] (setV (sortK (once [] xs))) [] := by
  refine Fn.enter Gv D P_set_of rfl rfl fun L q cd ok => ?_
  have hsl : (sortK (once [] xs)).length ≤ 4 := by rw [(sortK_perm h4).length_eq]; exact h4
  refine Sx.cons (S1.ret (Ev.call (o₁ := []) (o₂ := []) (o₃ := []) (r := []) (Ev.blt Gv (by rfl) Bl.tuple.1 Bl.tuple.2) (Es.cons
    (Ev.call (o₁ := []) (o₂ := []) (o₃ := []) (r := []) (Ev.blt Gv (by rfl) Bl.sorted.1 Bl.sorted.2) (Es.cons
      (Ev.call (o₁ := []) (o₂ := []) (o₃ := []) (r := []) (Ev.blt Gv (by rfl) Bl.dict.1 Bl.dict.2) (Es.cons
        (Ev.cast (Ev.comp (F := []) (x := "one") (Src.of (Ev.name (d := setV xs) (by rfl)) Itr.tup (List.nil_sublist _)) (List.nil_sublist _) (p := fun _ => true) (f := pairT) (ρc := capρ [])
          ⟨CompOk.of (by (first | kernel_rfl | decide +kernel)), by rw [List.length_map]; (first | assumption | exact Nat.le_of_ble_eq_true rfl | exact Nat.add_le_add_left (Nat.le_of_ble_eq_true rfl) _ | exact Nat.le_trans (by assumption) (Nat.le_of_ble_eq_true rfl) | lia | omega), CapL.cap .nil, .inl rfl, fun C okc d hd => Tst.nil, fun C okc d hd _ => Ev.tuple (Es.cons (Ev.name (by rfl)) (Es.cons Ev.constBool Es.nil))⟩) (congrArg V.lst pairs_one)) Es.nil) (.type _) (Fn.dictK Gv (by (first | assumption | exact Nat.le_of_ble_eq_true rfl | exact Nat.add_le_add_left (Nat.le_of_ble_eq_true rfl) _ | exact Nat.le_trans (by assumption) (Nat.le_of_ble_eq_true rfl) | lia | omega)))) Es.nil) (.builtin _) (Fn.sortedK h4)) Es.nil) (.type _) (Fn.tupleL .lst (by rw [List.length_map]; (first | assumption | exact Nat.le_of_ble_eq_true rfl | exact Nat.add_le_add_left (Nat.le_of_ble_eq_true rfl) _ | exact Nat.le_trans (by assumption) (Nat.le_of_ble_eq_true rfl) | lia | omega)))) ⟨rfl, [], by simp⟩)

theorem union_fn {f g : Addr} {xs ys : List Int} (Gv : Gl H mg mb) (Bl : Blts mg mb) (D : DefAt H f (top 18)) (Hs : Has H mg "set_of_sets" (top 14) g) (h4 : (once [] (xs ++ ys)).length ≤ 4) (hz : xs.length + ys.length ≤ 1000) : Fn w H (n + 2) (.ref f) [] [setV xs, setV ys] (setV (sUni xs ys)) [] := by
  refine Fn.enter Gv D P_union rfl rfl fun L q cd ok => ?_
  refine Sx.cons (S1.ret (Ev.call (o₁ := []) (o₂ := []) (o₃ := []) (r := []) (Ev.glob Gv (by rfl) Hs.nm) (Es.cons (Ev.cast (d' := setV (xs ++ ys)) (Ev.binop (Ev.name (d := setV xs) (by rfl)) (Ev.name (d := setV ys) (by rfl)) (Op2.addTup (by rw [List.length_map, List.length_map]; (first | assumption | exact Nat.le_of_ble_eq_true rfl | exact Nat.add_le_add_left (Nat.le_of_ble_eq_true rfl) _ | exact Nat.le_trans (by assumption) (Nat.le_of_ble_eq_true rfl) | lia | omega)))) (by rw [setV, List.map_append])) Es.nil) Hs.kind (setof_fn Gv Bl Hs.at_ h4 (by rw [List.length_append]; (first | assumption | exact Nat.le_of_ble_eq_true rfl | exact Nat.add_le_add_left (Nat.le_of_ble_eq_true rfl) _ | exact Nat.le_trans (by assumption) (Nat.le_of_ble_eq_true rfl) | lia | omega)))) ⟨rfl, [], by simp⟩)

theorem meet_fn {f : Addr} {xs ys : List Int} (Gv : Gl H mg mb) (Bl : Blts mg mb) (D : DefAt H f (top 19)) (hz : xs.length ≤ 1000) (hy : ys.length ≤ 1000) : Fn w H (n + 1) (.ref f) [] [setV xs, setV ys] (setV (sMeet xs ys)) [] := by
  refine Fn.enter Gv D P_meet rfl rfl fun L q cd ok => ?_
  refine Sx.cons (S1.assign (d := .tdc (once [] ys)) (Ev.call (o₁ := []) (o₂ := []) (o₃ := []) (r := []) (Ev.blt Gv (by rfl) Bl.dict.1 Bl.dict.2) (Es.cons
        (Ev.cast (Ev.comp (F := []) (x := "one") (Src.of (Ev.name (d := setV ys) (by rfl)) Itr.tup (List.nil_sublist _)) (List.nil_sublist _) (p := fun _ => true) (f := pairT) (ρc := capρ [])
          ⟨CompOk.of (by (first | kernel_rfl | decide +kernel)), by rw [List.length_map]; (first | assumption | exact Nat.le_of_ble_eq_true rfl | exact Nat.add_le_add_left (Nat.le_of_ble_eq_true rfl) _ | exact Nat.le_trans (by assumption) (Nat.le_of_ble_eq_true rfl) | lia | omega), CapL.cap .nil, .inl rfl, fun C okc d hd => Tst.nil, fun C okc d hd _ => Ev.tuple (Es.cons (Ev.name (by rfl)) (Es.cons Ev.constBool Es.nil))⟩) (congrArg V.lst pairs_one)) Es.nil) (.type _) (Fn.dictK Gv (by (first | assumption | exact Nat.le_of_ble_eq_true rfl | exact Nat.add_le_add_left (Nat.le_of_ble_eq_true rfl) _ | exact Nat.le_trans (by assumption) (Nat.le_of_ble_eq_true rfl) | lia | omega)))) (.inr ⟨by rfl, by rfl⟩) ?_)
  have hfl : (xs.filter fun k => (once [] ys).contains k).length ≤ 1000 := Nat.le_trans (List.length_filter_le _ _) hz
  refine Sx.cons (S1.ret (Ev.call (o₁ := []) (o₂ := []) (o₃ := []) (r := []) (Ev.blt Gv (by rfl) Bl.tuple.1 Bl.tuple.2) (Es.cons
        (Ev.cast (d' := .lst ((sMeet xs ys).map one)) (Ev.comp (F := []) (x := "one") (Src.of (Ev.name (d := setV xs) (by rfl)) Itr.tup (List.nil_sublist _)) (List.nil_sublist _) (p := inOne (once [] ys)) (f := id) (ρc := capρ [("known", .tdc (once [] ys))])
          ⟨CompOk.of (by (first | kernel_rfl | decide +kernel)), by rw [List.length_map]; (first | assumption | exact Nat.le_of_ble_eq_true rfl | exact Nat.add_le_add_left (Nat.le_of_ble_eq_true rfl) _ | exact Nat.le_trans (by assumption) (Nat.le_of_ble_eq_true rfl) | lia | omega), CapL.cap (.cons (by (first | kernel_rfl | decide +kernel)) (by rfl) (by rfl) Fzd.same .nil), .inl rfl, fun C okc d hd => ?_, fun C okc d hd _ => Ev.name (by rfl)⟩) (by rw [List.map_id, filter_one]; rfl)) Es.nil) (.type _) (Fn.tupleL .lst (by rw [List.length_map]; exact Nat.le_trans hfl (by decide)))) ⟨rfl, [], by simp⟩)
  obtain ⟨k, hk, rfl⟩ := List.mem_map.mp hd
  exact Tst.one (Te.cmp (Ev.name (d := one k) (by rfl)) (Ev.name (d := .tdc (once [] ys)) (by rfl)) Op2.inTdc)

theorem minus_fn {f : Addr} {xs ys : List Int} (Gv : Gl H mg mb) (Bl : Blts mg mb) (D : DefAt H f (top 20)) (hz : xs.length ≤ 1000) (hy : ys.length ≤ 1000) : Fn w H (n + 1) (.ref f) [] [setV xs, setV ys] (setV (sMinus xs ys)) [] := by
  refine Fn.enter Gv D P_minus rfl rfl fun L q cd ok => ?_
  refine Sx.cons (S1.assign (d := .tdc (once [] ys)) (Ev.call (o₁ := []) (o₂ := []) (o₃ := []) (r := []) (Ev.blt Gv (by rfl) Bl.dict.1 Bl.dict.2) (Es.cons
        (Ev.cast (Ev.comp (F := []) (x := "one") (Src.of (Ev.name (d := setV ys) (by rfl)) Itr.tup (List.nil_sublist _)) (List.nil_sublist _) (p := fun _ => true) (f := pairT) (ρc := capρ [])
          ⟨CompOk.of (by (first | kernel_rfl | decide +kernel)), by rw [List.length_map]; (first | assumption | exact Nat.le_of_ble_eq_true rfl | exact Nat.add_le_add_left (Nat.le_of_ble_eq_true rfl) _ | exact Nat.le_trans (by assumption) (Nat.le_of_ble_eq_true rfl) | lia | omega), CapL.cap .nil, .inl rfl, fun C okc d hd => Tst.nil, fun C okc d hd _ => Ev.tuple (Es.cons (Ev.name (by rfl)) (Es.cons Ev.constBool Es.nil))⟩) (congrArg V.lst pairs_one)) Es.nil) (.type _) (Fn.dictK Gv (by (first | assumption | exact Nat.le_of_ble_eq_true rfl | exact Nat.add_le_add_left (Nat.le_of_ble_eq_true rfl) _ | exact Nat.le_trans (by assumption) (Nat.le_of_ble_eq_true rfl) | lia | omega)))) (.inr ⟨by rfl, by rfl⟩) ?_)
  have hfl : (xs.filter fun k => !(once [] ys).contains k).length ≤ 1000 := Nat.le_trans (List.length_filter_le _ _) hz
  refine Sx.cons (S1.ret (Ev.call (o₁ := []) (o₂ := []) (o₃ := []) (r := []) (Ev.blt Gv (by rfl) Bl.tuple.1 Bl.tuple.2) (Es.cons
        (Ev.cast (d' := .lst ((sMinus xs ys).map one)) (Ev.comp (F := []) (x := "one") (Src.of (Ev.name (d := setV xs) (by rfl)) Itr.tup (List.nil_sublist _)) (List.nil_sublist _) (p := fun d => !inOne (once [] ys) d) (f := id) (ρc := capρ [("known", .tdc (once [] ys))])
          ⟨CompOk.of (by (first | kernel_rfl | decide +kernel)), by rw [List.length_map]; (first | assumption | exact Nat.le_of_ble_eq_true rfl | exact Nat.add_le_add_left (Nat.le_of_ble_eq_true rfl) _ | exact Nat.le_trans (by assumption) (Nat.le_of_ble_eq_true rfl) | lia | omega), CapL.cap (.cons (by (first | kernel_rfl | decide +kernel)) (by rfl) (by rfl) Fzd.same .nil), .inl rfl, fun C okc d hd => ?_, fun C okc d hd _ => Ev.name (by rfl)⟩) (by rw [List.map_id, filter_none]; rfl)) Es.nil) (.type _) (Fn.tupleL .lst (by rw [List.length_map]; exact Nat.le_trans hfl (by decide)))) ⟨rfl, [], by simp⟩)
  obtain ⟨k, hk, rfl⟩ := List.mem_map.mp hd
  exact Tst.one (Te.cmp (Ev.name (d := one k) (by rfl)) (Ev.name (d := .tdc (once [] ys)) (by rfl)) Op2.notInTdc)

theorem within_fn {f g : Addr} {xs ys : List Int} (Gv : Gl H mg mb) (Bl : Blts mg mb) (D : DefAt H f (top 21)) (Hm : Has H mg "minus" (top 20) g) (hz : xs.length ≤ 1000) (hy : ys.length ≤ 1000) : Fn w H (n + 2) (.ref f) [] [setV xs, setV ys] (.raw (.bool (sMinus xs ys).isEmpty)) [] := by
  refine Fn.enter Gv D P_within rfl rfl fun L q cd ok => ?_
  refine Sx.cons (S1.ret (Ev.cmp (Ev.call (o₁ := []) (o₂ := []) (o₃ := []) (r := []) (Ev.glob Gv (by rfl) Hm.nm) (Es.cons (Ev.name (d := setV xs) (by rfl)) (Es.cons (Ev.name (d := setV ys) (by rfl)) Es.nil)) Hm.kind (minus_fn Gv Bl Hm.at_ hz hy)) (Ev.tuple Es.nil) Op2.eqTupNil) ⟨by rw [List.isEmpty_map], [], by simp⟩)
end
end Mine
end
section
open PySem PySem.W PyProof.Rows PySem.MeetsSeq PySem.SeqAt
set_option maxRecDepth 100000
namespace Mine

theorem len_counts : ∀ {l : List Int}, (∀ z ∈ l, 0 ≤ z ∧ z < 4) → l.length = l.count 0 + l.count 1 + l.count 2 + l.count 3
  | [], _ => rfl
  | x :: l, h => by
    have ih := len_counts (l := l) fun z hz => h z (.tail _ hz)
    have hx := h x (.head _)
    have : x = 0 ∨ x = 1 ∨ x = 2 ∨ x = 3 := by (first | assumption | exact Nat.le_of_ble_eq_true rfl | exact Nat.add_le_add_left (Nat.le_of_ble_eq_true rfl) _ | exact Nat.le_trans (by assumption) (Nat.le_of_ble_eq_true rfl) | lia | omega)
    rcases this with rfl | rfl | rfl | rfl <;> simp [List.count_cons, ih] <;> (first | assumption | exact Nat.le_of_ble_eq_true rfl | exact Nat.add_le_add_left (Nat.le_of_ble_eq_true rfl) _ | exact Nat.le_trans (by assumption) (Nat.le_of_ble_eq_true rfl) | lia | omega)
theorem once_nodup {l : List Int} : ∀ {acc : List Int}, acc.Nodup → (once acc l).Nodup := by
  induction l with
  | nil => intro acc h; exact h
  | cons x l ih =>
    intro acc h
    unfold once
    split
    · exact ih h
    · rename_i hx
      refine ih (List.nodup_append.mpr ⟨h, by simp, ?_⟩)
      intro y hy z hz e
      simp at hz
      exact hx (by simpa using (hz ▸ e ▸ hy : x ∈ acc))
theorem once4 {l : List Int} (h : ∀ z ∈ l, 0 ≤ z ∧ z < 4) : (once [] l).length ≤ 4 := by
  have hn := once_nodup (l := l) (acc := []) List.nodup_nil
  have hm : ∀ z ∈ once [] l, 0 ≤ z ∧ z < 4 := fun z hz => by
    rcases mem_once.mp hz with h' | h'
    · cases h'
    · exact h z h'
  rw [len_counts hm]
  have c := List.nodup_iff_count.mp hn
  have c0 := c 0; have c1 := c 1; have c2 := c 2; have c3 := c 3
  (first | assumption | exact Nat.le_of_ble_eq_true rfl | exact Nat.add_le_add_left (Nat.le_of_ble_eq_true rfl) _ | exact Nat.le_trans (by assumption) (Nat.le_of_ble_eq_true rfl) | lia | omega)

noncomputable def sem (inst : List (List Int)) : X → List Int
  | .rel n => inst.getD n.toNat []
  | .uni a b => sUni (sem inst a) (sem inst b)
  | .meet a b => sMeet (sem inst a) (sem inst b)
noncomputable def X.ok (k : Nat) : X → Prop
  | .rel n => 0 ≤ n ∧ n.toNat < k
  | .uni a b => a.ok k ∧ b.ok k
  | .meet a b => a.ok k ∧ b.ok k
noncomputable def X.h : X → Nat
  | .rel _ => 1
  | .uni a b => max a.h b.h + 5
  | .meet a b => max a.h b.h + 5
noncomputable def InstOk (inst : List (List Int)) : Prop := ∀ l ∈ inst, l.length ≤ 100 ∧ ∀ z ∈ l, 0 ≤ z ∧ z < 4
theorem sem_ok {inst : List (List Int)} (hi : InstOk inst) : ∀ {x : X}, x.ok inst.length → (sem inst x).length ≤ 100 ∧ ∀ z ∈ sem inst x, 0 ≤ z ∧ z < 4
  | .rel n, h => by
    have : sem inst (.rel n) = inst[n.toNat]'h.2 := by simp [sem, List.getD, List.getElem?_eq_getElem h.2]
    rw [this]
    exact hi _ (List.getElem_mem h.2)
  | .uni a b, h => by
    have ha := sem_ok hi h.1
    have hb := sem_ok hi h.2
    have hab : ∀ z ∈ sem inst a ++ sem inst b, 0 ≤ z ∧ z < 4 := fun z hz => (List.mem_append.mp hz).elim (ha.2 z) (hb.2 z)
    have h4 := once4 hab
    have hp := sortK_perm h4
    refine ⟨?_, fun z hz => ?_⟩
    · show (sUni _ _).length ≤ 100
      unfold sUni; rw [hp.length_eq]; (first | assumption | exact Nat.le_of_ble_eq_true rfl | exact Nat.add_le_add_left (Nat.le_of_ble_eq_true rfl) _ | exact Nat.le_trans (by assumption) (Nat.le_of_ble_eq_true rfl) | lia | omega)
    · have := hp.mem_iff.mp hz
      rcases mem_once.mp this with h' | h'
      · cases h'
      · exact hab z h'
  | .meet a b, h => by
    have ha := sem_ok hi h.1
    exact ⟨Nat.le_trans (List.length_filter_le _ _) ha.1, fun z hz => ha.2 z (List.mem_filter.mp hz).1⟩

noncomputable def evV (C : Addr) (inst : List (List Int)) : V := .ins C [("many", .int 4), ("instance", .lst (inst.map setV)), ("ways", .int 0)]
noncomputable abbrev noV : V := .dct []
noncomputable def manyOf (op : Str) (k : Nat) : Bool := if op == ("some" : Str) then decide (0 < k) else if op == ("no" : Str) then decide (k = 0) else if op == ("one" : Str) then decide (k = 1) else decide (k < 2)
noncomputable def Fo.ok (k : Nat) : Fo → Prop
  | .inn a b => a.ok k ∧ b.ok k
  | .mul m a => a.ok k ∧ m ∈ (["no", "one", "lone", "some"] : List Str)
noncomputable def Fo.h : Fo → Nat
  | .inn a b => max a.h b.h + 4
  | .mul _ a => a.h + 4
noncomputable def Fo.sem (inst : List (List Int)) : Fo → Bool
  | .inn a b => (sMinus (Mine.sem inst a) (Mine.sem inst b)).isEmpty
  | .mul m a => manyOf m (Mine.sem inst a).length

section
variable {w : World} {H Z : Heap} {n : Nat} {pk : List Addr} {env : Env} {ρ ρc : Names} {o₀ o₁ o₂ o₃ own own₁ own₂ F : Own} {N : Names → Own → Prop} {R : V → Own → Prop} {sts : List Stmt} {st : Stmt} {mg mb : Str → Option Value} {K : Frag}

/-- the evaluator's class and what it reads -/
structure EvC (H : Heap) (K : Frag) (mg : Str → Option Value) (C : Addr) : Prop where
  cls : InstCls K C ["many", "instance", "ways"]
  set_of : ∃ f, MethAt H K C "set_of" (mem 32 2) f
  of_two : ∃ f, MethAt H K C "of_two" (mem 32 4) f
  truth : ∃ f, MethAt H K C "truth" (mem 32 6) f
  has_many : ∃ f, MethAt H K C "has_many" (mem 32 8) f
  init : ∃ f, MethAt H K C "__init__" (mem 32 0) f
  makes : makesIn K C = true
  union : ∃ f, Has H mg "union" (top 18) f
  meet : ∃ f, Has H mg "meet" (top 19) f
  sets : ∃ f, Has H mg "set_of_sets" (top 14) f
  minus : ∃ f, Has H mg "minus" (top 20) f
  within : ∃ f, Has H mg "is_within" (top 21) f

theorem two_fn {C f : Addr} {inst : List (List Int)} {s : V} {xs ys : List Int} {op : Str} (Gv : Gl H mg mb) (Bl : Blts mg mb) (E : EvC H K mg C) (M : MethAt H K C "of_two" (mem 32 4) f) (ho : op = "union" ∧ (once [] (xs ++ ys)).length ≤ 4 ∨ op = "meet") (hz : xs.length ≤ 100) (hy : ys.length ≤ 100) :
    Fn w H (n + 3) (.ref f) [] [s, .str op, setV xs, setV ys] (setV (if op = "union" then sUni xs ys else sMeet xs ys)) [] := by
  obtain ⟨fu, Hu⟩ := E.union
  obtain ⟨fm, Hm⟩ := E.meet
  obtain ⟨fs, Hs⟩ := E.sets
  refine Fn.enter Gv M.at_ P_ev_two rfl rfl fun L q cd ok => ?_
  rcases ho with ⟨rfl, h4⟩ | rfl
  · refine Sx.cons (S1.ite (q := true) (Te.cast (Te.cmp (Ev.name (d := .str "union") (by rfl)) Ev.constStr Op2.eqStr) (by (first | kernel_rfl | decide +kernel))) ?_)
    exact Sx.cons (S1.ret (Ev.call (o₁ := []) (o₂ := []) (o₃ := []) (r := []) (Ev.glob Gv (by rfl) Hu.nm) (Es.cons (Ev.name (d := setV xs) (by rfl)) (Es.cons (Ev.name (d := setV ys) (by rfl)) Es.nil)) Hu.kind (union_fn Gv Bl Hu.at_ Hs h4 (by (first | assumption | exact Nat.le_of_ble_eq_true rfl | exact Nat.add_le_add_left (Nat.le_of_ble_eq_true rfl) _ | exact Nat.le_trans (by assumption) (Nat.le_of_ble_eq_true rfl) | lia | omega)))) ⟨by rw [if_pos rfl], [], by simp⟩)
  · refine Sx.cons (S1.ite (q := false) (Te.cast (Te.cmp (Ev.name (d := .str "meet") (by rfl)) Ev.constStr Op2.eqStr) (by (first | kernel_rfl | decide +kernel))) (Sx.nil ?_))
    refine Sx.cons (S1.ite (q := true) (Te.cast (Te.cmp (Ev.name (d := .str "meet") (by rfl)) Ev.constStr Op2.eqStr) (by (first | kernel_rfl | decide +kernel))) ?_)
    exact Sx.cons (S1.ret (Ev.call (o₁ := []) (o₂ := []) (o₃ := []) (r := []) (Ev.glob Gv (by rfl) Hm.nm) (Es.cons (Ev.name (d := setV xs) (by rfl)) (Es.cons (Ev.name (d := setV ys) (by rfl)) Es.nil)) Hm.kind ((meet_fn (n := n) Gv Bl Hm.at_ (by (first | assumption | exact Nat.le_of_ble_eq_true rfl | exact Nat.add_le_add_left (Nat.le_of_ble_eq_true rfl) _ | exact Nat.le_trans (by assumption) (Nat.le_of_ble_eq_true rfl) | lia | omega)) (by (first | assumption | exact Nat.le_of_ble_eq_true rfl | exact Nat.add_le_add_left (Nat.le_of_ble_eq_true rfl) _ | exact Nat.le_trans (by assumption) (Nat.le_of_ble_eq_true rfl) | lia | omega))).le (by (first | assumption | exact Nat.le_of_ble_eq_true rfl | exact Nat.add_le_add_left (Nat.le_of_ble_eq_true rfl) _ | exact Nat.le_trans (by assumption) (Nat.le_of_ble_eq_true rfl) | lia | omega)))) ⟨by rw [if_neg (by (first | kernel_rfl | decide +kernel))], [], by simp⟩)

theorem many_fn {C f : Addr} {s : V} {k : Nat} {op : Str} (Gv : Gl H mg mb) (M : MethAt H K C "has_many" (mem 32 8) f) : Fn w H (n + 1) (.ref f) [] [s, .str op, .int k] (.raw (.bool (manyOf op k))) [] := by
  refine Fn.enter Gv M.at_ P_ev_many rfl rfl fun L q cd ok => ?_
  refine Sx.cons (S1.ite (Te.cmp (Ev.name (d := .str op) (by rfl)) Ev.constStr Op2.eqStr) ?_)
  by_cases h1 : (op == ("some" : Str)) = true
  · rw [h1]
    exact Sx.cons (S1.ret (Ev.cmp (Ev.name (d := .int k) (by rfl)) Ev.constInt Op2.gtInt) ⟨by unfold manyOf; rw [if_pos h1]; simp, [], by simp⟩)
  · rw [Bool.not_eq_true] at h1
    rw [h1]
    refine Sx.nil (Sx.cons (S1.ite (Te.cmp (Ev.name (d := .str op) (by rfl)) Ev.constStr Op2.eqStr) ?_))
    by_cases h2 : (op == ("no" : Str)) = true
    · rw [h2]
      exact Sx.cons (S1.ret (Ev.cmp (Ev.name (d := .int k) (by rfl)) Ev.constInt Op2.eqInt) ⟨by unfold manyOf; rw [h1, h2]; simp only [if_true, Bool.false_eq_true, if_false]; congr 2; rw [Bool.eq_iff_iff, beq_iff_eq, decide_eq_true_iff]; (first | assumption | exact Nat.le_of_ble_eq_true rfl | exact Nat.add_le_add_left (Nat.le_of_ble_eq_true rfl) _ | exact Nat.le_trans (by assumption) (Nat.le_of_ble_eq_true rfl) | lia | omega), [], by simp⟩)
    · rw [Bool.not_eq_true] at h2
      rw [h2]
      refine Sx.nil ?_
      by_cases h3 : (op == ("one" : Str)) = true
      · exact Sx.cons (S1.ret (Ev.ifT (Te.cast (Te.cmp (Ev.name (d := .str op) (by rfl)) Ev.constStr Op2.eqStr) h3) (Ev.cmp (Ev.name (d := .int k) (by rfl)) Ev.constInt Op2.eqInt)) ⟨by unfold manyOf; rw [h1, h2, h3]; simp only [if_true, Bool.false_eq_true, if_false]; congr 2; rw [Bool.eq_iff_iff, beq_iff_eq, decide_eq_true_iff]; (first | assumption | exact Nat.le_of_ble_eq_true rfl | exact Nat.add_le_add_left (Nat.le_of_ble_eq_true rfl) _ | exact Nat.le_trans (by assumption) (Nat.le_of_ble_eq_true rfl) | lia | omega), [], by simp⟩)
      · rw [Bool.not_eq_true] at h3
        exact Sx.cons (S1.ret (Ev.ifF (Te.cast (Te.cmp (Ev.name (d := .str op) (by rfl)) Ev.constStr Op2.eqStr) h3) (Ev.cmp (Ev.name (d := .int k) (by rfl)) Ev.constInt Op2.ltInt)) ⟨by unfold manyOf; rw [h1, h2, h3]; simp only [Bool.false_eq_true, if_false]; congr 2; rw [Bool.eq_iff_iff, decide_eq_true_iff, decide_eq_true_iff]; (first | assumption | exact Nat.le_of_ble_eq_true rfl | exact Nat.add_le_add_left (Nat.le_of_ble_eq_true rfl) _ | exact Nat.le_trans (by assumption) (Nat.le_of_ble_eq_true rfl) | lia | omega), [], by simp⟩)
end
end Mine
end
section
open PySem PySem.W PyProof.Rows PySem.MeetsSeq PySem.SeqAt
set_option maxRecDepth 100000
namespace Mine

section
variable {w : World} {H Z : Heap} {n : Nat} {pk : List Addr} {env : Env} {ρ ρc : Names} {o₀ o₁ o₂ o₃ own own₁ own₂ F : Own} {N : Names → Own → Prop} {R : V → Own → Prop} {sts : List Stmt} {st : Stmt} {mg mb : Str → Option Value} {K : Frag}

/-- an if that is not taken -/
theorem S1.skip {t : Expr} {bd : List Stmt} {pos : Pos} (x : Te w H n env ρ own t false own) (h : N ρ own) : S1 w H n pk env (.If t bd [] pos) ρ own N R := S1.ite x (Sx.nil h)
theorem Te.eqS {x y : Str} {e1 : Expr} {k : Nat} {p1 p2 : Pos} (v : Ev w H n env ρ own e1 (.str x) own) (h : (x == y) = false) : Te w H n env ρ own (.Compare e1 [.Eq] [.Constant (.str y) k p1] p2) false own := Te.cast (Te.cmp v Ev.constStr Op2.eqStr) h

theorem set_fn {C f : Addr} {inst : List (List Int)} (Gv : Gl H mg mb) (Bl : Blts mg mb) (X₀ : K.In H) (E : EvC H K mg C) (M : MethAt H K C "set_of" (mem 32 2) f) (hi : InstOk inst) (hil : inst.length ≤ 100) : ∀ (x : X), x.ok inst.length → Fn w H (n + x.h) (.ref f) [] [evV C inst, x.v, noV] (setV (sem inst x)) [] := by
  obtain ⟨ft, Mt⟩ := E.of_two
  obtain ⟨obf, fdf, k1, k2, k3⟩ := M.obj
  obtain ⟨obt, fdt, t1, t2, t3⟩ := Mt.obj
  have two : ∀ (op : Str) (a b : X) (x : X), (op = "union" ∧ x = .uni a b) ∨ (op = "meet" ∧ x = .meet a b) → a.ok inst.length → b.ok inst.length → Fn w H (n + a.h) (.ref f) [] [evV C inst, a.v, noV] (setV (sem inst a)) [] → Fn w H (n + b.h) (.ref f) [] [evV C inst, b.v, noV] (setV (sem inst b)) [] →
      Fn w H (n + (max a.h b.h + 5)) (.ref f) [] [evV C inst, .tup [.str op, a.v, b.v], noV] (setV (sem inst x)) [] := by
    intro op a b x hop ha hb iha ihb
    have sa := sem_ok hi ha
    have sb := sem_ok hi hb
    have hop2 : (op == ("rel" : Str)) = false ∧ (op == ("var" : Str)) = false ∧ (op == ("tuples" : Str)) = false ∧ (op == ("none" : Str)) = false ∧ (op == ("univ" : Str)) = false ∧ (op == ("iden" : Str)) = false ∧ (op == ("either" : Str)) = false ∧ (op == ("comp" : Str)) = false ∧ (["turn", "closure", "star"] : List Str).contains op = false := by
      rcases hop with ⟨rfl, _⟩ | ⟨rfl, _⟩ <;> (first | kernel_rfl | decide +kernel)
    obtain ⟨h1, h2, h3, h4, h5, h6, h7, h8, h9⟩ := hop2
    refine Fn.enter (n := n + (max a.h b.h + 4)) Gv M.at_ P_ev_set rfl rfl fun L q cd ok => ?_
    refine Sx.cons (S1.assign (d := .str op) (Ev.sub (Ev.name (d := .tup [.str op, a.v, b.v]) (by rfl)) Ev.constInt (Op2.subTup (by decide) (by rfl))) (.inl (by rfl)) ?_)
    refine Sx.cons (S1.skip (Te.eqS (Ev.name (by rfl)) h1) ?_)
    refine Sx.cons (S1.skip (Te.eqS (Ev.name (by rfl)) h2) ?_)
    refine Sx.cons (S1.skip (Te.eqS (Ev.name (by rfl)) h3) ?_)
    refine Sx.cons (S1.skip (Te.eqS (Ev.name (by rfl)) h4) ?_)
    refine Sx.cons (S1.skip (Te.eqS (Ev.name (by rfl)) h5) ?_)
    refine Sx.cons (S1.skip (Te.eqS (Ev.name (by rfl)) h6) ?_)
    refine Sx.cons (S1.skip (Te.eqS (Ev.name (by rfl)) h7) ?_)
    refine Sx.cons (S1.skip (Te.eqS (Ev.name (by rfl)) h8) ?_)
    refine Sx.cons (S1.skip (Te.cast (Te.cmp (Ev.name (d := .str op) (by rfl)) (Ev.tuple (Es.cons Ev.constStr (Es.cons Ev.constStr (Es.cons Ev.constStr Es.nil)))) (Op2.inTupStr (xs := ["turn", "closure", "star"]))) h9) ?_)
    refine Sx.cons (S1.ret (Ev.meth (o₁ := []) (o₂ := []) (o₃ := []) (r := []) X₀ (Ev.name (d := evV C inst) (by rfl)) .ins E.cls.ok Mt.find t1 t2 t3 (by rfl) (Es.cons (Ev.name (d := .str op) (by rfl)) (Es.cons (Ev.meth (o₁ := []) (o₂ := []) (o₃ := []) (r := []) X₀ (Ev.name (d := evV C inst) (by rfl)) .ins E.cls.ok M.find k1 k2 k3 (by rfl) (Es.cons (Ev.sub (Ev.name (d := .tup [.str op, a.v, b.v]) (by rfl)) Ev.constInt (Op2.subTup (d := a.v) (by decide) (by rfl))) (Es.cons (Ev.name (d := noV) (by rfl)) Es.nil)) (iha.le (by (first | assumption | exact Nat.le_of_ble_eq_true rfl | exact Nat.add_le_add_left (Nat.le_of_ble_eq_true rfl) _ | exact Nat.le_trans (by assumption) (Nat.le_of_ble_eq_true rfl) | lia | omega)))) (Es.cons (Ev.meth (o₁ := []) (o₂ := []) (o₃ := []) (r := []) X₀ (Ev.name (d := evV C inst) (by rfl)) .ins E.cls.ok M.find k1 k2 k3 (by rfl) (Es.cons (Ev.sub (Ev.name (d := .tup [.str op, a.v, b.v]) (by rfl)) Ev.constInt (Op2.subTup (d := b.v) (by decide) (by rfl))) (Es.cons (Ev.name (d := noV) (by rfl)) Es.nil)) (ihb.le (by (first | assumption | exact Nat.le_of_ble_eq_true rfl | exact Nat.add_le_add_left (Nat.le_of_ble_eq_true rfl) _ | exact Nat.le_trans (by assumption) (Nat.le_of_ble_eq_true rfl) | lia | omega)))) Es.nil)))
      ((two_fn (n := n) (inst := inst) Gv Bl E Mt (op := op) ?_ sa.1 sb.1).le (by (first | assumption | exact Nat.le_of_ble_eq_true rfl | exact Nat.add_le_add_left (Nat.le_of_ble_eq_true rfl) _ | exact Nat.le_trans (by assumption) (Nat.le_of_ble_eq_true rfl) | lia | omega)))) ⟨?_, [], by simp⟩)
    · rcases hop with ⟨rfl, _⟩ | ⟨rfl, _⟩
      · exact .inl ⟨rfl, once4 fun z hz => (List.mem_append.mp hz).elim (sa.2 z) (sb.2 z)⟩
      · exact .inr rfl
    · rcases hop with ⟨rfl, rfl⟩ | ⟨rfl, rfl⟩
      · rw [if_pos rfl]; rfl
      · rw [if_neg (by (first | kernel_rfl | decide +kernel))]; rfl
  intro x
  induction x with
  | rel m =>
    intro hx
    refine Fn.enter (n := n) Gv M.at_ P_ev_set rfl rfl fun L q cd ok => ?_
    refine Sx.cons (S1.assign (d := .str "rel") (Ev.sub (Ev.name (d := .tup [.str "rel", .int m]) (by rfl)) Ev.constInt (Op2.subTup (by decide) (by rfl))) (.inl (by rfl)) ?_)
    refine Sx.cons (S1.ite (q := true) (Te.cast (Te.cmp (Ev.name (d := .str "rel") (by rfl)) Ev.constStr Op2.eqStr) (by (first | kernel_rfl | decide +kernel))) ?_)
    refine Sx.cons (S1.ret (Ev.sub (Ev.attr (C := C) (d := .lst (inst.map setV)) X₀ (Ev.name (d := evV C inst) (by rfl)) .ins E.cls.ok (E.cls.at_ "instance" (by (first | kernel_rfl | decide +kernel))).1 (by rfl)) (Ev.sub (Ev.name (d := .tup [.str "rel", .int m]) (by rfl)) Ev.constInt (Op2.subTup (by decide) (by rfl))) (Op2.subLst .lst hx.1 ?_ (by have := hx.2; (first | assumption | exact Nat.le_of_ble_eq_true rfl | exact Nat.add_le_add_left (Nat.le_of_ble_eq_true rfl) _ | exact Nat.le_trans (by assumption) (Nat.le_of_ble_eq_true rfl) | lia | omega)))) ⟨rfl, [], by simp⟩)
    rw [List.getElem?_map, List.getElem?_eq_getElem hx.2]
    simp [sem, List.getD, List.getElem?_eq_getElem hx.2]
  | uni a b iha ihb => exact fun hx => two "union" a b _ (.inl ⟨rfl, rfl⟩) hx.1 hx.2 (iha hx.1) (ihb hx.2)
  | meet a b iha ihb => exact fun hx => two "meet" a b _ (.inr ⟨rfl, rfl⟩) hx.1 hx.2 (iha hx.1) (ihb hx.2)
end
end Mine
end
section
open PySem PySem.W PyProof.Rows PySem.MeetsSeq PySem.SeqAt
set_option maxRecDepth 100000
namespace Mine

section
variable {w : World} {H Z : Heap} {n : Nat} {pk : List Addr} {env : Env} {ρ ρc : Names} {o₀ o₁ o₂ o₃ own own₁ own₂ F : Own} {N : Names → Own → Prop} {R : V → Own → Prop} {sts : List Stmt} {st : Stmt} {mg mb : Str → Option Value} {K : Frag}

theorem truth_fn {C f : Addr} {inst : List (List Int)} (Gv : Gl H mg mb) (Bl : Blts mg mb) (X₀ : K.In H) (E : EvC H K mg C) (M : MethAt H K C "truth" (mem 32 6) f) (hi : InstOk inst) (hil : inst.length ≤ 100) : ∀ (φ : Fo), φ.ok inst.length → Fn w H (n + φ.h) (.ref f) [] [evV C inst, φ.v, noV] (.raw (.bool (φ.sem inst))) [] := by
  obtain ⟨fs, Ms⟩ := E.set_of
  obtain ⟨fm, Mm⟩ := E.has_many
  obtain ⟨fw, Hw⟩ := E.within
  obtain ⟨fn, Hn⟩ := E.minus
  obtain ⟨obs, fds, s1, s2, s3⟩ := Ms.obj
  obtain ⟨obm, fdm, m1, m2, m3⟩ := Mm.obj
  intro φ hφ
  cases φ with
  | inn a b =>
    have sa := sem_ok hi hφ.1
    have sb := sem_ok hi hφ.2
    have ia := (set_fn (w := w) (n := n) Gv Bl X₀ E Ms hi hil a hφ.1).le (n := n + (max a.h b.h + 3)) (by (first | assumption | exact Nat.le_of_ble_eq_true rfl | exact Nat.add_le_add_left (Nat.le_of_ble_eq_true rfl) _ | exact Nat.le_trans (by assumption) (Nat.le_of_ble_eq_true rfl) | lia | omega))
    have ib := (set_fn (w := w) (n := n) Gv Bl X₀ E Ms hi hil b hφ.2).le (n := n + (max a.h b.h + 3)) (by (first | assumption | exact Nat.le_of_ble_eq_true rfl | exact Nat.add_le_add_left (Nat.le_of_ble_eq_true rfl) _ | exact Nat.le_trans (by assumption) (Nat.le_of_ble_eq_true rfl) | lia | omega))
    refine Fn.enter (n := n + (max a.h b.h + 3)) Gv M.at_ P_ev_truth rfl rfl fun L q cd ok => ?_
    refine Sx.cons (S1.assign (d := .str "in") (Ev.sub (Ev.name (d := .tup [.str "in", a.v, b.v]) (by rfl)) Ev.constInt (Op2.subTup (by decide) (by rfl))) (.inl (by rfl)) ?_)
    refine Sx.cons (S1.skip (Te.cast (Te.cmp (Ev.name (d := .str "in") (by rfl)) (Ev.tuple (Es.cons Ev.constStr (Es.cons Ev.constStr Es.nil))) (Op2.inTupStr (xs := ["true", "false"]))) (by (first | kernel_rfl | decide +kernel))) ?_)
    refine Sx.cons (S1.skip (Te.eqS (Ev.name (x := "op") (by rfl)) (by (first | kernel_rfl | decide +kernel))) ?_)
    refine Sx.cons (S1.skip (Te.eqS (Ev.name (x := "op") (by rfl)) (by (first | kernel_rfl | decide +kernel))) ?_)
    refine Sx.cons (S1.skip (Te.eqS (Ev.name (x := "op") (by rfl)) (by (first | kernel_rfl | decide +kernel))) ?_)
    refine Sx.cons (S1.skip (Te.eqS (Ev.name (x := "op") (by rfl)) (by (first | kernel_rfl | decide +kernel))) ?_)
    refine Sx.cons (S1.skip (Te.eqS (Ev.name (x := "op") (by rfl)) (by (first | kernel_rfl | decide +kernel))) ?_)
    refine Sx.cons (S1.skip (Te.cast (Te.cmp (Ev.name (d := .str "in") (by rfl)) (Ev.tuple (Es.cons Ev.constStr (Es.cons Ev.constStr Es.nil))) (Op2.inTupStr (xs := ["all", "exists"]))) (by (first | kernel_rfl | decide +kernel))) ?_)
    refine Sx.cons (S1.skip (Te.cast (Te.cmp (Ev.name (d := .str "in") (by rfl)) (Ev.tuple (Es.cons Ev.constStr (Es.cons Ev.constStr (Es.cons Ev.constStr Es.nil)))) (Op2.inTupStr (xs := ["le", "lt", "eq"]))) (by (first | kernel_rfl | decide +kernel))) ?_)
    refine Sx.cons (S1.ite (q := true) (Te.cast (Te.cmp (Ev.name (d := .str "in") (by rfl)) (Ev.tuple (Es.cons Ev.constStr (Es.cons Ev.constStr Es.nil))) (Op2.inTupStr (xs := ["in", "same"]))) (by (first | kernel_rfl | decide +kernel))) ?_)
    refine Sx.cons (S1.tupS (names := ["s", "t"]) (Eg.tuple (Egs.cons (Eg.of (Ev.meth (o₁ := []) (o₂ := []) (o₃ := []) (r := []) X₀ (Ev.name (d := evV C inst) (by rfl)) .ins E.cls.ok Ms.find s1 s2 s3 (by rfl) (Es.cons (Ev.sub (Ev.name (d := .tup [.str "in", a.v, b.v]) (by rfl)) Ev.constInt (Op2.subTup (d := a.v) (by decide) (by rfl))) (Es.cons (Ev.name (d := noV) (by rfl)) Es.nil)) ia)
      (Egs.cons (Eg.of (Ev.meth (o₁ := []) (o₂ := []) (o₃ := []) (r := []) X₀ (Ev.name (d := evV C inst) (by rfl)) .ins E.cls.ok Ms.find s1 s2 s3 (by rfl) (Es.cons (Ev.sub (Ev.name (d := .tup [.str "in", a.v, b.v]) (by rfl)) Ev.constInt (Op2.subTup (d := b.v) (by decide) (by rfl))) (Es.cons (Ev.name (d := noV) (by rfl)) Es.nil)) ib) (Egs.nil ⟨by simp, _, rfl, rfl, ?_⟩)))))) (st2 (.inl (by rfl)) (.inl (by rfl))))
    exact Sx.cons (S1.ret (Ev.ifT (Te.cast (Te.cmp (Ev.name (d := .str "in") (by rfl)) Ev.constStr Op2.eqStr) (by (first | kernel_rfl | decide +kernel))) (Ev.call (o₁ := []) (o₂ := []) (o₃ := []) (r := []) (Ev.glob Gv (by rfl) Hw.nm) (Es.cons (Ev.name (d := setV (sem inst a)) (by rfl)) (Es.cons (Ev.name (d := setV (sem inst b)) (by rfl)) Es.nil)) Hw.kind ((within_fn (n := n) Gv Bl Hw.at_ Hn (by (first | assumption | exact Nat.le_of_ble_eq_true rfl | exact Nat.add_le_add_left (Nat.le_of_ble_eq_true rfl) _ | exact Nat.le_trans (by assumption) (Nat.le_of_ble_eq_true rfl) | lia | omega)) (by (first | assumption | exact Nat.le_of_ble_eq_true rfl | exact Nat.add_le_add_left (Nat.le_of_ble_eq_true rfl) _ | exact Nat.le_trans (by assumption) (Nat.le_of_ble_eq_true rfl) | lia | omega))).le (by (first | assumption | exact Nat.le_of_ble_eq_true rfl | exact Nat.add_le_add_left (Nat.le_of_ble_eq_true rfl) _ | exact Nat.le_trans (by assumption) (Nat.le_of_ble_eq_true rfl) | lia | omega))))) ⟨rfl, [], by simp⟩)
  | mul m a =>
    have sa := sem_ok hi hφ.1
    have ia := (set_fn (w := w) (n := n) Gv Bl X₀ E Ms hi hil a hφ.1).le (n := n + (a.h + 3)) (by (first | assumption | exact Nat.le_of_ble_eq_true rfl | exact Nat.add_le_add_left (Nat.le_of_ble_eq_true rfl) _ | exact Nat.le_trans (by assumption) (Nat.le_of_ble_eq_true rfl) | lia | omega))
    have hm : (["true", "false"] : List Str).contains m = false ∧ (m == ("not" : Str)) = false ∧ (m == ("and" : Str)) = false ∧ (m == ("or" : Str)) = false ∧ (m == ("implies" : Str)) = false ∧ (m == ("iff" : Str)) = false ∧ (["all", "exists"] : List Str).contains m = false ∧ (["le", "lt", "eq"] : List Str).contains m = false ∧ (["in", "same"] : List Str).contains m = false := by
      have hall : ∀ m ∈ (["no", "one", "lone", "some"] : List Str), (["true", "false"] : List Str).contains m = false ∧ (m == ("not" : Str)) = false ∧ (m == ("and" : Str)) = false ∧ (m == ("or" : Str)) = false ∧ (m == ("implies" : Str)) = false ∧ (m == ("iff" : Str)) = false ∧ (["all", "exists"] : List Str).contains m = false ∧ (["le", "lt", "eq"] : List Str).contains m = false ∧ (["in", "same"] : List Str).contains m = false := by (first | kernel_rfl | decide +kernel)
      exact hall m hφ.2
    obtain ⟨g1, g2, g3, g4, g5, g6, g7, g8, g9⟩ := hm
    refine Fn.enter (n := n + (a.h + 3)) Gv M.at_ P_ev_truth rfl rfl fun L q cd ok => ?_
    refine Sx.cons (S1.assign (d := .str m) (Ev.sub (Ev.name (d := .tup [.str m, a.v]) (by rfl)) Ev.constInt (Op2.subTup (by decide) (by rfl))) (.inl (by rfl)) ?_)
    refine Sx.cons (S1.skip (Te.cast (Te.cmp (Ev.name (d := .str m) (by rfl)) (Ev.tuple (Es.cons Ev.constStr (Es.cons Ev.constStr Es.nil))) (Op2.inTupStr (xs := ["true", "false"]))) g1) ?_)
    refine Sx.cons (S1.skip (Te.eqS (Ev.name (by rfl)) g2) ?_)
    refine Sx.cons (S1.skip (Te.eqS (Ev.name (by rfl)) g3) ?_)
    refine Sx.cons (S1.skip (Te.eqS (Ev.name (by rfl)) g4) ?_)
    refine Sx.cons (S1.skip (Te.eqS (Ev.name (by rfl)) g5) ?_)
    refine Sx.cons (S1.skip (Te.eqS (Ev.name (by rfl)) g6) ?_)
    refine Sx.cons (S1.skip (Te.cast (Te.cmp (Ev.name (d := .str m) (by rfl)) (Ev.tuple (Es.cons Ev.constStr (Es.cons Ev.constStr Es.nil))) (Op2.inTupStr (xs := ["all", "exists"]))) g7) ?_)
    refine Sx.cons (S1.skip (Te.cast (Te.cmp (Ev.name (d := .str m) (by rfl)) (Ev.tuple (Es.cons Ev.constStr (Es.cons Ev.constStr (Es.cons Ev.constStr Es.nil)))) (Op2.inTupStr (xs := ["le", "lt", "eq"]))) g8) ?_)
    refine Sx.cons (S1.skip (Te.cast (Te.cmp (Ev.name (d := .str m) (by rfl)) (Ev.tuple (Es.cons Ev.constStr (Es.cons Ev.constStr Es.nil))) (Op2.inTupStr (xs := ["in", "same"]))) g9) ?_)
    exact Sx.cons (S1.ret (Ev.meth (o₁ := []) (o₂ := []) (o₃ := []) (r := []) X₀ (Ev.name (d := evV C inst) (by rfl)) .ins E.cls.ok Mm.find m1 m2 m3 (by rfl) (Es.cons (Ev.name (d := .str m) (by rfl)) (Es.cons (Ev.call (o₁ := []) (o₂ := []) (o₃ := []) (r := []) (Ev.blt Gv (by rfl) Bl.len.1 Bl.len.2)
      (Es.cons (Ev.meth (o₁ := []) (o₂ := []) (o₃ := []) (r := []) X₀ (Ev.name (d := evV C inst) (by rfl)) .ins E.cls.ok Ms.find s1 s2 s3 (by rfl) (Es.cons (Ev.sub (Ev.name (d := .tup [.str m, a.v]) (by rfl)) Ev.constInt (Op2.subTup (d := a.v) (by decide) (by rfl))) (Es.cons (Ev.name (d := noV) (by rfl)) Es.nil)) ia) Es.nil) (.builtin _) (Fn.cast (Fn.lenT (by rw [List.length_map]; (first | assumption | exact Nat.le_of_ble_eq_true rfl | exact Nat.add_le_add_left (Nat.le_of_ble_eq_true rfl) _ | exact Nat.le_trans (by assumption) (Nat.le_of_ble_eq_true rfl) | lia | omega))) (by rw [List.length_map]))) Es.nil)) ((many_fn (n := n) Gv Mm).le (by (first | assumption | exact Nat.le_of_ble_eq_true rfl | exact Nat.add_le_add_left (Nat.le_of_ble_eq_true rfl) _ | exact Nat.le_trans (by assumption) (Nat.le_of_ble_eq_true rfl) | lia | omega)))) ⟨rfl, [], by simp⟩)
end
end Mine
end
section
open PySem PySem.W PyProof.Rows PySem.MeetsSeq PySem.SeqAt
set_option maxRecDepth 100000
namespace Mine

section
variable {w : World} {H Z : Heap} {n : Nat} {pk : List Addr} {env : Env} {ρ ρc : Names} {o₀ o₁ o₂ o₃ own own₁ own₂ F : Own} {N : Names → Own → Prop} {R : V → Own → Prop} {sts : List Stmt} {st : Stmt} {mg mb : Str → Option Value} {K : Frag}

theorem Te.notT {e : Expr} {q : Bool} {pos : Pos} (x : Te w H n env ρ o₀ e q o₁) : Te w H n env ρ o₀ (.UnaryOp .Not e pos) (!q) o₁ :=
  .mk x.1 fun A b s rm L => isTrue_not (wpAny_mono (x.run rm L) (fun v s' ⟨e, b', st, L'⟩ => ⟨by rw [e], b', st, L'⟩) fun _ _ f => f)

theorem Ev.dictNil {pos : Pos} (Gv : Gl H mg mb) : Ev w H n env ρ o₀ (.Dict [] [] pos) (.dct []) o₀ :=
  .mk rfl fun A b s rm L => wpAny_Dict_empty (by
    have hsys := sys_ne Gv L.bas
    refine Pt.of_keeps (A := A) L (Keeps.push _ s.toks) ?_
    simp only [VR]
    obtain ⟨o, es, ep, ho, q⟩ := Heap.DictOf.new (knd := SK w) s.heap
    exact ⟨_, [], rfl, hsys, ⟨o, es, ep, growH_new (get_size_none _) ho, q⟩, by simp [VRp]⟩)

/-- the pairs of a display, keys texts -/
noncomputable def Ep (w : World) (H : Heap) (n : Nat) (env : Env) (ρ : Names) (own : Own) (keys : List (Option Expr)) (values : List Expr) (kvs : List (Str × V)) : Prop :=
  ∀ A b s pos, Rm n A → Loc w H env b s.heap ρ own → wpAny (Md w) A (evalPairs (pairTrees keys values env pos)) (fun vs s' => ∃ b' kv, Step own b s b' s' ∧ Loc w H env b' s'.heap ρ own ∧ Carries (SK w) vs kv ∧ VRp w b' kvs kv) NoE s
theorem Ep.nil : Ep w H n env ρ own [] [] [] := fun A b s pos rm L => pairTrees_nil_walk ⟨b, [], Step.refl, L, by simp [Carries], by simp [VRp]⟩
theorem Ep.cons {x : Str} {k : Nat} {p1 : Pos} {e : Expr} {d : V} {keys : List (Option Expr)} {values : List Expr} {kvs : List (Str × V)} (v : Ev w H n env ρ own e d own) (r : Ep w H n env ρ own keys values kvs) : Ep w H n env ρ own (some (.Constant (.str x) k p1) :: keys) (e :: values) ((x, d) :: kvs) := fun A b s pos rm L =>
  pairTrees_cons_walk (wpAny_mono ((Ev.constStr (x := x) (k := k) (pos := p1)).run rm L) (fun u s₁ ⟨b₁, st₁, L₁, r₁⟩ => wpAny_mono (v.run rm L₁) (fun y s₂ ⟨b₂, st₂, L₂, r₂⟩ => wpAny_mono (r A b₂ s₂ pos rm L₂) (fun vs s₃ ⟨b₃, kv, st₃, L₃, hc, hp⟩ => by
    obtain ⟨t, rfl⟩ := r₁
    refine ⟨b₃, (x, y) :: kv, (st₁.trans rfl st₂).trans rfl st₃, L₃, ?_, ?_⟩
    · simp only [Carries]; exact ⟨strKind_is _ _ _ _, trivial, hc⟩
    · simp only [VRp]; exact ⟨trivial, r₂.mono st₃.grow, hp⟩) fun _ _ f => f) fun _ _ f => f) fun _ _ f => f)
theorem VRp.merged {b : Heap} : ∀ {more : List (Str × V)} {kv : List (Str × Value)} {acc : List (Str × V)} {av : List (Str × Value)}, VRp w b acc av → VRp w b more kv → VRp w b (putAll acc more) (PySem.merged av kv)
  | [], [], _, _, h, _ => h
  | (x, d) :: more, (y, v) :: kv, acc, av, h, g => by
    simp only [VRp] at g
    obtain ⟨rfl, g1, g2⟩ := g
    show VRp w b (putAll (storedV acc y d) more) (PySem.merged (PySem.stored av y v) kv)
    exact VRp.merged (h.stored g1) g2
  | [], _ :: _, _, _, _, g => by simp [VRp] at g
  | _ :: _, [], _, _, _, g => by simp [VRp] at g

theorem Ev.disp {keys : List (Option Expr)} {values : List Expr} {kvs : List (Str × V)} {pos : Pos} (Gv : Gl H mg mb) (x : Ep w H n env ρ own keys values kvs) (hall : keys.all (·.isSome) = true) (hl : keys.length = values.length) (h0 : keys ≠ []) (hlen : keys.length ≤ 15) :
    Ev w H n env ρ own (.Dict keys values pos) (.dct (putAll [] kvs)) own :=
  .mk rfl fun A b s rm L => by
    have hsys := sys_ne Gv L.bas
    have hn := get_size_none s.heap
    have L₀ : Loc w H env (growH b s.heap (s.heap.push { cls := .type "dict", data := .dict #[] })) (s.heap.push { cls := .type "dict", data := .dict #[] }) ρ own := L.pure (s := s) (s' := { s with heap := s.heap.push { cls := .type "dict", data := .dict #[] } }) (Keeps.push _ s.toks)
    have k0 : Le s.heap (s.heap.push { cls := .type "dict", data := .dict #[] }) := fun _ _ e => Heap.get?_push_of_some _ e
    obtain ⟨m, cm, Fr, hv⟩ := L.frm
    have live : ∀ a, (∃ q, s.heap.get? a = some q) → a ≠ s.heap.objs.size := fun a ⟨q, hq⟩ e => by rw [e, hn] at hq; cases hq
    have hbD : b.get? s.heap.objs.size = none := by
      cases e : b.get? s.heap.objs.size with
      | none => rfl
      | some q => have := L.sub _ _ e; rw [hn] at this; cases this
    have hoD : s.heap.objs.size ∉ own.map (·.1) := fun hm => by obtain ⟨p, hp, e⟩ := List.mem_map.mp hm; exact live _ (L.ow p hp).live e
    have L₁ : Loc w H env b (s.heap.push { cls := .type "dict", data := .dict #[] }) ρ own := ⟨L.ok, L.base, L.sub.trans k0, ⟨m, cm, Fr.keep fun a _ q e => k0 _ _ e, hv⟩, L.priv, fun p hp => (L.ow p hp).keep (Le.refl _) fun q e => k0 _ _ e, L.ownb, L.ownp, L.nodup⟩
    refine wpAny_Dict_walk (knd := SK w) hall hl h0 hlen (wpAny_mono (x A b { s with heap := s.heap.push { cls := .type "dict", data := .dict #[] } } pos rm L₁) (fun vs s₂ ⟨b₂, kv, st₂, L₂, hc, hp⟩ => ?_) fun _ _ f => f)
    obtain ⟨o, es, ep, ho, q⟩ := Heap.DictOf.new (knd := SK w) s.heap
    have hD2 : s₂.heap.get? s.heap.objs.size = some o := st₂.keep _ _ hoD ho
    have hb2 : b₂.get? s.heap.objs.size = none := st₂.none hbD ⟨_, ho⟩
    refine ⟨kv, hc, ⟨o, es, ep, hD2, q⟩, fun h' hd hs => ?_⟩
    have ext : ∀ a z, a ≠ s.heap.objs.size → s₂.heap.get? a = some z → h'.get? a = some z := fun a z ha e => (hs.2 a ha).trans e
    have nD : ¬ Priv env s.heap.objs.size := fun pa => live _ (Fr.live pa) rfl
    have L₃ : Loc w H env b₂ h' ρ own := L₂.other (wr := [s.heap.objs.size]) (fun a z ha e => ext a z (by simpa using ha) e) fun a ha => by rw [List.mem_singleton.mp ha]; exact ⟨hb2, hoD, nD⟩
    have g : Le b₂ (plusH b₂ h' s.heap.objs.size) := le_plusH L₃.sub
    have nn : ∀ a, b₂.get? a = none → a ≠ s.heap.objs.size → (plusH b₂ h' s.heap.objs.size).get? a = none := fun a h1 h2 => by
      cases e : (plusH b₂ h' s.heap.objs.size).get? a with
      | none => rfl
      | some z =>
        obtain ⟨h3 | h3, _⟩ := plusH_some.mp e
        · rw [h1] at h3; cases h3
        · exact absurd h3 h2
    obtain ⟨m3, cm3, Fr3, hv3⟩ := L₃.frm
    refine ⟨plusH b₂ h' s.heap.objs.size, ⟨?_, fun a z ha e => ext a z (live a ⟨z, e⟩) (st₂.keep a z ha (k0 _ _ e)), fun a z e => ?_, st₂.grow.trans g, fun a z e => ?_⟩,
      ⟨L₃.ok, L₃.base.trans g, fun a z e => (plusH_some.mp e).2, ⟨m3, cm3, Fr3, fun y d e => let ⟨v, h1, h2⟩ := hv3 y d e; ⟨v, h1, h2.mono g⟩⟩, fun a pa => nn a (L₃.priv a pa) fun e => nD (e ▸ pa), fun p hp => (L₃.ow p hp).keep g fun _ e => e, fun p hp => nn _ (L₃.ownb p hp) fun e => hoD (e ▸ List.mem_map_of_mem hp), L₃.ownp, L₃.nodup⟩, ?_⟩
    · obtain ⟨h1, t1, e⟩ := st₂.same; exact ⟨h', _, by rw [e]⟩
    · obtain ⟨q', hq'⟩ := st₂.live a z (k0 _ _ e)
      exact ⟨q', ext a q' (live a ⟨z, e⟩) hq'⟩
    · obtain ⟨h3 | h3, h4⟩ := plusH_some.mp e
      · obtain ⟨q', hq'⟩ := Option.isSome_iff_exists.mp h3
        have e1 := L₃.sub _ _ hq'
        rw [h4] at e1; cases e1
        rcases st₂.fresh a _ hq' with h5 | h5
        · exact .inl h5
        · right
          cases e6 : s.heap.get? a with
          | none => rfl
          | some z' => have := k0 _ _ e6; rw [h5] at this; cases this
      · exact .inr (h3 ▸ hn)
    · simp only [VR]
      obtain ⟨o', es', ep', ho', q'⟩ := hd
      exact ⟨_, _, rfl, hsys, ⟨o', es', ep', plusH_some.mpr ⟨.inr rfl, ho'⟩, q'⟩, (VRp.merged (acc := []) (av := []) (by simp [VRp]) hp).mono g⟩
end
end Mine
end
section
open PySem PySem.W PyProof.Rows PySem.MeetsSeq PySem.SeqAt
set_option maxRecDepth 100000
namespace Mine

theorem X.v_inj : ∀ {a b : X}, a.v = b.v → a = b
  | .rel n, .rel m, h => by simp only [X.v, V.tup.injEq, List.cons.injEq, V.int.injEq, and_true, true_and] at h; rw [h]
  | .rel n, .uni a b, h => by simp [X.v] at h
  | .rel n, .meet a b, h => by simp [X.v] at h
  | .uni a b, .rel n, h => by simp [X.v] at h
  | .meet a b, .rel n, h => by simp [X.v] at h
  | .uni a b, .uni c d, h => by
    simp only [X.v, V.tup.injEq, List.cons.injEq, and_true, true_and] at h
    rw [X.v_inj h.1, X.v_inj h.2]
  | .meet a b, .meet c d, h => by
    simp only [X.v, V.tup.injEq, List.cons.injEq, and_true, true_and] at h
    rw [X.v_inj h.1, X.v_inj h.2]
  | .uni a b, .meet c d, h => by
    simp only [X.v, V.tup.injEq, List.cons.injEq, V.str.injEq] at h
    exact absurd h.1 (by (first | kernel_rfl | decide +kernel))
  | .meet a b, .uni c d, h => by
    simp only [X.v, V.tup.injEq, List.cons.injEq, V.str.injEq] at h
    exact absurd h.1 (by (first | kernel_rfl | decide +kernel))
theorem Fo.v_inj : ∀ {a b : Fo}, a.v = b.v → a = b
  | .inn a b, .inn c d, h => by
    simp only [Fo.v, V.tup.injEq, List.cons.injEq, and_true, true_and] at h
    rw [X.v_inj h.1, X.v_inj h.2]
  | .inn a b, .mul m c, h => by simp [Fo.v] at h
  | .mul m c, .inn a b, h => by simp [Fo.v] at h
  | .mul m c, .mul k d, h => by
    simp only [Fo.v, V.tup.injEq, List.cons.injEq, V.str.injEq, and_true] at h
    rw [h.1, X.v_inj h.2]

open Classical in
noncomputable def fails (inst : List (List Int)) (d : V) : Bool := decide (∃ φ : Fo, d = φ.v ∧ φ.sem inst = false)
open Classical in
theorem fails_v {inst : List (List Int)} {φ : Fo} : fails inst φ.v = !φ.sem inst := by
  unfold fails
  rw [Bool.eq_iff_iff, decide_eq_true_iff]
  constructor
  · rintro ⟨ψ, h1, h2⟩
    rw [Fo.v_inj h1, h2]; rfl
  · intro h
    exact ⟨φ, rfl, by simpa using h⟩
theorem fails_all {inst : List (List Int)} : ∀ {fs : List Fo}, ((fs.map Fo.v).filter (fails inst)).isEmpty = fs.all (Fo.sem inst)
  | [] => rfl
  | φ :: fs => by
    rw [List.map_cons, List.filter_cons, fails_v, List.all_cons]
    cases h : φ.sem inst
    · simp
    · simpa using fails_all (fs := fs)

section
variable {w : World} {H Z : Heap} {n : Nat} {pk : List Addr} {env : Env} {ρ ρc : Names} {o₀ o₁ o₂ o₃ own own₁ own₂ F : Own} {N : Names → Own → Prop} {R : V → Own → Prop} {sts : List Stmt} {st : Stmt} {mg mb : Str → Option Value} {K : Frag}

theorem hold_fn {C f : Addr} {inst : List (List Int)} {fs : List Fo} {k : Nat} (Gv : Gl H mg mb) (Bl : Blts mg mb) (X₀ : K.In H) (E : EvC H K mg C) (D : DefAt H f (top 58)) (hi : InstOk inst) (hil : inst.length ≤ 100) (hfs : ∀ φ ∈ fs, φ.ok inst.length ∧ φ.h ≤ k) (hl : fs.length ≤ 1000) :
    Fn w H (n + k + 1) (.ref f) [] [evV C inst, .lst (fs.map Fo.v)] (.raw (.bool (fs.all (Fo.sem inst)))) [] := by
  obtain ⟨ft, Mt⟩ := E.truth
  obtain ⟨obt, fdt, t1, t2, t3⟩ := Mt.obj
  refine Fn.enter (n := n + k) Gv D P_hold rfl rfl fun L q cd ok => ?_
  refine Sx.cons (S1.ret (Ev.cmp (Ev.comp (F := []) (x := "f") (Src.of (Ev.name (d := .lst (fs.map Fo.v)) (by rfl)) (Itr.lst .lst) (List.nil_sublist _)) (List.nil_sublist _) (p := fails inst) (f := id) (ρc := capρ [("evaluator", evV C inst)])
      ⟨CompOk.of (by (first | kernel_rfl | decide +kernel)), by rw [List.length_map]; (first | assumption | exact Nat.le_of_ble_eq_true rfl | exact Nat.add_le_add_left (Nat.le_of_ble_eq_true rfl) _ | exact Nat.le_trans (by assumption) (Nat.le_of_ble_eq_true rfl) | lia | omega), CapL.cap (.cons (by (first | kernel_rfl | decide +kernel)) (by rfl) (by rfl) Fzd.same .nil), .inl rfl, fun C' okc d hd => ?_, fun C' okc d hd _ => Ev.name (by rfl)⟩) (Ev.list Es.nil) (Op2.eqLstNil .lst)) ⟨by rw [List.map_id, fails_all], [], by simp⟩)
  obtain ⟨φ, hφ, rfl⟩ := List.mem_map.mp hd
  rw [fails_v]
  have hk := (hfs φ hφ).2
  exact Tst.one (Te.notT (Te.plain (Ev.meth (o₁ := []) (o₂ := []) (o₃ := []) (r := []) X₀ (Ev.name (d := evV C inst) (by rfl)) .ins E.cls.ok Mt.find t1 t2 t3 (by rfl) (Es.cons (Ev.name (d := φ.v) (by rfl)) (Es.cons (Ev.dictNil Gv) Es.nil)) ((truth_fn (w := w) (n := n) Gv Bl X₀ E Mt hi hil φ (hfs φ hφ).1).le (by (first | assumption | exact Nat.le_of_ble_eq_true rfl | exact Nat.add_le_add_left (Nat.le_of_ble_eq_true rfl) _ | exact Nat.le_trans (by assumption) (Nat.le_of_ble_eq_true rfl) | lia | omega)))) Tru.bool))

theorem look_cons {k x : Str} {d : V} {r : List (Str × V)} : lookV ((k, d) :: r) x = if k = x then some d else lookV r x := by
  unfold lookV
  rw [List.find?_cons]
  by_cases h : k = x
  · simp [h]
  · simp [h]
theorem putAll_new : ∀ {l acc : List (Str × V)}, ((acc ++ l).map (·.1)).Nodup → putAll acc l = acc ++ l
  | [], acc, _ => by simp [putAll]
  | (k, d) :: l, acc, h => by
    have hk : k ∉ acc.map (·.1) := by
      rw [List.map_append, List.map_cons, List.nodup_append] at h
      exact fun hm => h.2.2 k hm k (.head _) rfl
    show putAll (storedV acc k d) l = _
    rw [storedV_new hk, putAll_new (by simpa using h)]
    simp
theorem Ta.or2 {e1 e2 : Expr} {q1 q2 : Bool} (x : Te w H n env ρ own e1 q1 own) (y : Te w H n env ρ own e2 q2 own) : Ta w H n env ρ own .Or [e1, e2] (q1 || q2) own := by
  cases q1 with
  | true => exact Ta.orT x
  | false => cases q2 with
    | true => exact Ta.orF x (Ta.orT y)
    | false => exact Ta.orF x (Ta.orF y Ta.orNil)
theorem Ta.and2 {e1 e2 : Expr} {q1 q2 : Bool} (x : Te w H n env ρ own e1 q1 own) (y : q1 = true → Te w H n env ρ own e2 q2 own) : Ta w H n env ρ own .And [e1, e2] (q1 && q2) own := by
  cases q1 with
  | false => exact Ta.andF x
  | true => cases q2 with
    | true => exact Ta.andT x (Ta.andT (y rfl) Ta.andNil)
    | false => exact Ta.andT x (Ta.andF (y rfl))

/-- does the atom break what the label says? -/
noncomputable def badAt (P : List Lab) (hs : HL) (l : Lab) (t : Int) : Bool :=
  (l.parent != ("" : Str) && !((xsOf hs l.parent).getD []).contains t) || (!l.parts.isEmpty && !l.parts.any fun y => ((xsOf hs y).getD []).contains t)
noncomputable def placedS (P : List Lab) (hs : HL) (l : Lab) : Bool :=
  !(((xsOf hs l.name).getD []).any (badAt P hs l)) && (if l.mark == ("" : Str) then true else if l.mark == ("one" : Str) then ((xsOf hs l.name).getD []).length == 1 else if l.mark == ("lone" : Str) then decide (((xsOf hs l.name).getD []).length < 2) else decide (0 < ((xsOf hs l.name).getD []).length))

theorem inHas_filter {hs : HL} {t : Int} : ∀ {ys : List Str}, ((ys.map V.str).filter (inHas hs t)).isEmpty = !ys.any fun y => ((xsOf hs y).getD []).contains t
  | [] => rfl
  | y :: ys => by
    rw [List.map_cons, List.filter_cons, List.any_cons]
    have e : inHas hs t (.str y) = ((xsOf hs y).getD []).contains t := by
      unfold inHas
      dsimp only
      split <;> simp_all
    rw [e]
    cases h : ((xsOf hs y).getD []).contains t
    · simpa using inHas_filter (ys := ys)
    · simp

noncomputable abbrev IPl (P : List Lab) (hs : HL) (l : Lab) (xs : List Int) : Nat → Names → Own → Prop := fun i ρ' own' => own' = [] ∧ ρ' "has" = some (.dct (hasV hs)) ∧ ρ' "label" = some (.str l.name) ∧ ρ' "parent" = some (.str l.parent) ∧ ρ' "parts" = some (.tup (l.parts.map .str)) ∧ ρ' "mark" = some (.str l.mark) ∧ (xs.take i).any (badAt P hs l) = false
set_option maxHeartbeats 2000000 in
theorem placed_fn {f : Addr} {P : List Lab} {hs : HL} {l : Lab} (Gv : Gl H mg mb) (Bl : Blts mg mb) (D : DefAt H f (top 56)) (hW : Wf P) (hP : P.length ≤ 8) (hl : l ∈ P) (ho : HsOk P hs (fun _ => 10)) :
    Fn w H (n + 1) (.ref f) [] [.dct (planV P), .dct (hasV hs), .str l.name] (.raw (.bool (placedS P hs l))) [] := by
  have look : ∀ {x : Str}, x ∈ names P → ∃ xs, xsOf hs x = some xs ∧ lookV (hasV hs) x = some (.lst (xs.map .int)) ∧ xs.length ≤ 10 := fun {x} hx => by
    obtain ⟨xs, h1⟩ := xsOf_some (hs := hs) (x := x) (by rw [ho.keys]; exact hx)
    obtain ⟨y, hy, _, e⟩ := xsOf_mem h1
    exact ⟨xs, h1, by rw [look_hasV, h1]; rfl, e ▸ (ho.vals y hy).1⟩
  obtain ⟨xs, hxs, hxl, hxz⟩ := look (List.mem_map_of_mem (f := (·.name)) hl)
  have hg : (xsOf hs l.name).getD [] = xs := by rw [hxs]; rfl
  refine Fn.enter (n := n) Gv D P_placed rfl rfl fun L q cd ok => ?_
  refine Sx.cons (S1.tupN (l := [("parent", _), ("parts", _), ("is_hollow", _), ("mark", _)]) (Eg.of (Ev.sub (Ev.name (d := .dct (planV P)) (by rfl)) (Ev.name (d := .str l.name) (by rfl)) (Op2.subDct .dct (hW.look hl))) ⟨_, rfl, rfl, ?_⟩) ?_)
  · change Sx w H n [] _ _ (upd (upd (upd (upd (argsρ ["plan", "has", "label"] [.dct (planV P), .dct (hasV hs), .str l.name]) "parent" (.str l.parent)) "parts" (.tup (l.parts.map .str))) "is_hollow" (.raw (.bool l.hollow))) "mark" (.str l.mark)) [] _ _
    refine Sx.cons (S1.for (IPl P hs l xs)
      (Src.of (Ev.sub (Ev.name (d := .dct (hasV hs)) (by rfl)) (Ev.name (d := .str l.name) (by rfl)) (Op2.subDct .dct hxl)) (Itr.lst .lst) (List.nil_sublist _)) (.inr ⟨by rfl, by rfl⟩) ⟨rfl, by rfl, by rfl, by rfl, by rfl, by rfl, rfl⟩ ?_ ?_)
    · rintro i d hd ρ' own' ⟨rfl, h1, h2, h3, h4, h5, h6⟩
      obtain ⟨t, ht, rfl⟩ : ∃ t, xs[i]? = some t ∧ d = .int t := by
        rw [List.getElem?_map] at hd
        obtain ⟨t, e1, e2⟩ := Option.map_eq_some_iff.mp hd
        exact ⟨t, e1, e2.symm⟩
      have hpl := hW.parts_len l hl
      have hmem : ∀ y ∈ l.parts, y ∈ names P := fun y hy => by
        obtain ⟨k, hk, e, _⟩ := hW.parts l hl y hy
        exact e ▸ List.mem_map_of_mem hk
      have hpar : (l.parent != ("" : Str)) = true → l.parent ∈ names P := fun h => by
        rcases hW.parent l hl with e | ⟨k, hk, e, _⟩
        · rw [e] at h; exact absurd h (by (first | kernel_rfl | decide +kernel))
        · exact e ▸ List.mem_map_of_mem hk
      have hbad : ((l.parent != ("" : Str) && !((xsOf hs l.parent).getD []).contains t) || (!(l.parts.map V.str).isEmpty && (((l.parts.map V.str).filter (inHas hs t)).map id).isEmpty)) = badAt P hs l t := by
        unfold badAt
        rw [List.map_id, inHas_filter, List.isEmpty_map]
      refine Sx.cons (S1.ite (Te.cast (Ta.te (Ta.or2 (Ta.te (Ta.and2 (Te.cmp (Ev.name h3) Ev.constStr Op2.neStr) fun h => ?_)) (Ta.te (Ta.and2 (Te.cmp (Ev.name h4) (Ev.tuple Es.nil) Op2.neTupNil) fun h => Te.cmp (Ev.comp (F := []) (x := "one") (Src.of (Ev.name h4) Itr.tup (List.nil_sublist _)) (List.nil_sublist _) (p := inHas hs t) (f := id) (ρc := capρ [("has", .dct (hasV hs)), ("atom", .int t)])
        ⟨CompOk.of (by (first | kernel_rfl | decide +kernel)), by rw [List.length_map]; (first | assumption | exact Nat.le_of_ble_eq_true rfl | exact Nat.add_le_add_left (Nat.le_of_ble_eq_true rfl) _ | exact Nat.le_trans (by assumption) (Nat.le_of_ble_eq_true rfl) | lia | omega), CapL.cap (.cons (by (first | kernel_rfl | decide +kernel)) (by rfl) h1 Fzd.same (.cons (by (first | kernel_rfl | decide +kernel)) (by rfl) (by rfl) Fzd.same .nil)), .inl rfl, fun C okc d hd => ?_, fun C okc d hd _ => Ev.name (by rfl)⟩) (Ev.list Es.nil) (Op2.eqLstNil .lst))))) hbad) ?_)
      · obtain ⟨ys, e1, e2, _⟩ := look (hpar h)
        rw [e1]
        exact Te.cmp (Ev.name (d := .int t) (by rfl)) (Ev.sub (Ev.name h1) (Ev.name h3) (Op2.subDct .dct e2)) (Op2.notInLstInt .lst)
      · obtain ⟨y, hy, rfl⟩ := List.mem_map.mp hd
        obtain ⟨ys, e1, e2, _⟩ := look (hmem y hy)
        have e : inHas hs t (.str y) = ys.contains t := by simp [inHas, e1]
        rw [e]
        exact Tst.one (Te.cmp (Ev.name (d := .int t) (by rfl)) (Ev.sub (Ev.name (d := .dct (hasV hs)) (by rfl)) (Ev.name (d := .str y) (by rfl)) (Op2.subDct .dct e2)) (Op2.inLstInt .lst))
      · cases hb : badAt P hs l t with
        | true =>
          have hres : placedS P hs l = false := by
            unfold placedS
            rw [hg, List.any_eq_true.mpr ⟨t, List.mem_iff_getElem?.mpr ⟨i, ht⟩, hb⟩]; rfl
          exact Sx.cons (S1.ret Ev.constBool ⟨by rw [hres], [], by simp⟩)
        | false =>
          refine Sx.nil (Sx.nil ⟨rfl, h1, h2, h3, h4, h5, ?_⟩)
          rw [List.take_add_one, ht, List.any_append, h6]
          simp [hb]
    · rintro ρ' own' ⟨rfl, h1, h2, h3, h4, h5, h6⟩
      rw [List.length_map, List.take_length] at h6
      have hln : ∀ {ρ : Names} {p1 p2 p3 p4 p5 : Pos}, ρ "has" = some (.dct (hasV hs)) → ρ "label" = some (.str l.name) → Ev w H n (fenv (top 56).2.2 L f q cd) ρ [] (.Call (.Name "len" p1) [.Subscript (.Name "has" p2) (.Name "label" p3) p4] [] p5) (.int xs.length) [] := fun {ρ p1 p2 p3 p4 p5} g1 g2 =>
        Ev.call (o₁ := []) (o₂ := []) (o₃ := []) (r := []) (Ev.blt Gv (by rfl) Bl.len.1 Bl.len.2) (Es.cons (Ev.sub (Ev.name g1) (Ev.name g2) (Op2.subDct .dct hxl)) Es.nil) (.builtin _) (Fn.cast (Fn.lenL .lst (by rw [List.length_map]; (first | assumption | exact Nat.le_of_ble_eq_true rfl | exact Nat.add_le_add_left (Nat.le_of_ble_eq_true rfl) _ | exact Nat.le_trans (by assumption) (Nat.le_of_ble_eq_true rfl) | lia | omega))) (by rw [List.length_map]))
      refine Sx.cons (S1.assign (hln h1 h2) (.inl (by rfl)) ?_)
      have hmk := hW.mark l hl
      refine Sx.cons ?_
      refine S1.ret (d := .raw (.bool (placedS P hs l))) (own₁ := []) ?_ ⟨rfl, [], rfl⟩
      have hd : ∃ D, D = putAll [] [("", V.raw (.bool true)), ("one", .raw (.bool ((xs.length : Int) == 1))), ("lone", .raw (.bool (decide ((xs.length : Int) < 2)))), ("some", .raw (.bool (decide ((0 : Int) < xs.length))))] := ⟨_, rfl⟩
      obtain ⟨D, hD⟩ := hd
      refine Ev.sub (a := .dct D) (c := .str l.mark) ?_ (Ev.name ((upd_there (by (first | kernel_rfl | decide +kernel))).trans h5)) ?_
      · rw [hD]
        refine Ev.disp Gv (Ep.cons Ev.constBool (Ep.cons (Ev.cmp (Ev.name (d := .int xs.length) (by rfl)) Ev.constInt Op2.eqInt) (Ep.cons (Ev.cmp (Ev.name (d := .int xs.length) (by rfl)) Ev.constInt Op2.ltInt) (Ep.cons (Ev.cmp (Ev.name (d := .int xs.length) (by rfl)) Ev.constInt Op2.gtInt) Ep.nil)))) (by rfl) (by rfl) (by simp) (by decide)
      · refine Op2.subDct .dct ?_
        rw [hD, putAll_new (acc := []) (by simp only [List.nil_append, List.map_cons, List.map_nil]; (first | kernel_rfl | decide +kernel)), List.nil_append]
        simp only [look_cons]
        unfold placedS
        rw [hg, h6]
        have e2 : decide ((xs.length : Int) < 2) = decide (xs.length < 2) := by rw [Bool.eq_iff_iff, decide_eq_true_iff, decide_eq_true_iff]; (first | assumption | exact Nat.le_of_ble_eq_true rfl | exact Nat.add_le_add_left (Nat.le_of_ble_eq_true rfl) _ | exact Nat.le_trans (by assumption) (Nat.le_of_ble_eq_true rfl) | lia | omega)
        have e3 : decide ((0 : Int) < xs.length) = decide (0 < xs.length) := by rw [Bool.eq_iff_iff, decide_eq_true_iff, decide_eq_true_iff]; (first | assumption | exact Nat.le_of_ble_eq_true rfl | exact Nat.add_le_add_left (Nat.le_of_ble_eq_true rfl) _ | exact Nat.le_trans (by assumption) (Nat.le_of_ble_eq_true rfl) | lia | omega)
        rw [e2, e3]
        simp only [marks, List.mem_cons, List.not_mem_nil, or_false] at hmk
        rcases hmk with e | e | e | e <;> rw [e]
        · rw [if_pos rfl]; rfl
        · rw [if_neg (by (first | kernel_rfl | decide +kernel)), if_pos rfl]
          have : ((xs.length : Int) == 1) = (xs.length == 1) := by rw [Bool.eq_iff_iff, beq_iff_eq, beq_iff_eq]; (first | assumption | exact Nat.le_of_ble_eq_true rfl | exact Nat.add_le_add_left (Nat.le_of_ble_eq_true rfl) _ | exact Nat.le_trans (by assumption) (Nat.le_of_ble_eq_true rfl) | lia | omega)
          rw [this, show (("one" : Str) == ("" : Str)) = false by (first | kernel_rfl | decide +kernel), show (("one" : Str) == ("one" : Str)) = true by (first | kernel_rfl | decide +kernel)]; simp
        · rw [if_neg (by (first | kernel_rfl | decide +kernel)), if_neg (by (first | kernel_rfl | decide +kernel)), if_pos rfl, show (("lone" : Str) == ("" : Str)) = false by (first | kernel_rfl | decide +kernel), show (("lone" : Str) == ("one" : Str)) = false by (first | kernel_rfl | decide +kernel), show (("lone" : Str) == ("lone" : Str)) = true by (first | kernel_rfl | decide +kernel)]; simp
        · rw [if_neg (by (first | kernel_rfl | decide +kernel)), if_neg (by (first | kernel_rfl | decide +kernel)), if_neg (by (first | kernel_rfl | decide +kernel)), if_pos rfl, show (("some" : Str) == ("" : Str)) = false by (first | kernel_rfl | decide +kernel), show (("some" : Str) == ("one" : Str)) = false by (first | kernel_rfl | decide +kernel), show (("some" : Str) == ("lone" : Str)) = false by (first | kernel_rfl | decide +kernel)]; simp
  · intro p hp
    simp only [List.mem_cons, List.not_mem_nil, or_false] at hp
    rcases hp with rfl | rfl | rfl | rfl <;> exact .inl (by rfl)
end
end Mine
end
section
open PySem PySem.W PyProof.Rows PySem.MeetsSeq PySem.SeqAt
set_option maxRecDepth 100000
namespace Mine

noncomputable def timesOf (P : List Lab) (hs : HL) (x : Str) (t : Int) : Nat := ((below P x).filter fun y => ((xsOf hs y).getD []).contains t).length
noncomputable def partBad (P : List Lab) (hs : HL) (l : Lab) (t : Int) : Bool :=
  decide (1 < timesOf P hs l.name t) || (l.hollow && (!(below P l.name).isEmpty && (((xsOf hs l.name).getD []).contains t && (timesOf P hs l.name t == 0 && true))))
noncomputable def partedS (P : List Lab) (hs : HL) (l : Lab) : Bool := !(List.range 4).any fun i => partBad P hs l (i : Int)
theorem inHas_len {hs : HL} {t : Int} : ∀ {ys : List Str}, ((ys.map V.str).filter (inHas hs t)).length = (ys.filter fun y => ((xsOf hs y).getD []).contains t).length
  | [] => rfl
  | y :: ys => by
    rw [List.map_cons, List.filter_cons, List.filter_cons]
    have e : inHas hs t (.str y) = ((xsOf hs y).getD []).contains t := by
      unfold inHas
      dsimp only
      split <;> simp_all
    rw [e]
    cases h : ((xsOf hs y).getD []).contains t
    · simpa using inHas_len (ys := ys)
    · simpa using inHas_len (ys := ys)

section
variable {w : World} {H Z : Heap} {n : Nat} {pk : List Addr} {env : Env} {ρ ρc : Names} {o₀ o₁ o₂ o₃ own own₁ own₂ F : Own} {N : Names → Own → Prop} {R : V → Own → Prop} {sts : List Stmt} {st : Stmt} {mg mb : Str → Option Value} {K : Frag}

theorem Ta.andC {e : Expr} {es : List Expr} {q1 q2 : Bool} (x : Te w H n env ρ own e q1 own) (y : q1 = true → Ta w H n env ρ own .And es q2 own) : Ta w H n env ρ own .And (e :: es) (q1 && q2) own := by
  cases q1 with
  | false => exact Ta.andF x
  | true => exact Ta.andT x (y rfl)

noncomputable abbrev IPd (P : List Lab) (hs : HL) (l : Lab) : Nat → Names → Own → Prop := fun i ρ' own' => own' = [] ∧ ρ' "plan" = some (.dct (planV P)) ∧ ρ' "has" = some (.dct (hasV hs)) ∧ ρ' "label" = some (.str l.name) ∧ ρ' "below" = some (.lst ((below P l.name).map .str)) ∧ ((List.range i).any fun i => partBad P hs l (i : Int)) = false
theorem parted_fn {f fb : Addr} {P : List Lab} {hs : HL} {l : Lab} (Gv : Gl H mg mb) (Bl : Blts mg mb) (D : DefAt H f (top 57)) (Hb : Has H mg "_law_below" (top 54) fb) (hW : Wf P) (hP : P.length ≤ 8) (hl : l ∈ P) (ho : HsOk P hs (fun _ => 10)) :
    Fn w H (n + 2) (.ref f) [] [.dct (planV P), .dct (hasV hs), .str l.name] (.raw (.bool (partedS P hs l))) [] := by
  have look : ∀ {x : Str}, x ∈ names P → ∃ xs, xsOf hs x = some xs ∧ lookV (hasV hs) x = some (.lst (xs.map .int)) ∧ xs.length ≤ 10 := fun {x} hx => by
    obtain ⟨xs, h1⟩ := xsOf_some (hs := hs) (x := x) (by rw [ho.keys]; exact hx)
    obtain ⟨y, hy, _, e⟩ := xsOf_mem h1
    exact ⟨xs, h1, by rw [look_hasV, h1]; rfl, e ▸ (ho.vals y hy).1⟩
  obtain ⟨xs, hxs, hxl, hxz⟩ := look (List.mem_map_of_mem (f := (·.name)) hl)
  have hg : (xsOf hs l.name).getD [] = xs := by rw [hxs]; rfl
  have hbl : (below P l.name).length ≤ 8 := by unfold below; rw [List.length_map]; exact Nat.le_trans (List.length_filter_le _ _) hP
  have hbm : ∀ y ∈ below P l.name, y ∈ names P := fun y hy => by
    obtain ⟨k, hk, e, _⟩ := mem_below.mp hy
    exact e ▸ List.mem_map_of_mem hk
  refine Fn.enter (n := n + 1) Gv D P_parted rfl rfl fun L q cd ok => ?_
  refine Sx.cons (S1.assign (Ev.below (n := n) Gv Hb hW (by (first | assumption | exact Nat.le_of_ble_eq_true rfl | exact Nat.add_le_add_left (Nat.le_of_ble_eq_true rfl) _ | exact Nat.le_trans (by assumption) (Nat.le_of_ble_eq_true rfl) | lia | omega)) (by rfl) (by rfl) (by rfl)) (.inl (by rfl)) ?_)
  refine Sx.cons (S1.for (IPd P hs l)
    (Src.of (Ev.call (o₁ := []) (o₂ := []) (o₃ := []) (r := []) (Ev.blt Gv (by rfl) Bl.range.1 Bl.range.2) (Es.cons Ev.constInt Es.nil) (.type _) Fn.range) (Itr.rng (k := 4) (by decide)) (List.nil_sublist _)) (.inr ⟨by rfl, by rfl⟩) ⟨rfl, by rfl, by rfl, by rfl, by rfl, rfl⟩ ?_ ?_)
  · rintro i d hd ρ' own' ⟨rfl, h1, h2, h3, h4, h5⟩
    obtain ⟨hi, rfl⟩ := upto_at hd
    refine Sx.cons (S1.assign (d := .int (timesOf P hs l.name (i : Int))) (Ev.cast (Ev.call (o₁ := []) (o₂ := []) (o₃ := []) (r := []) (Ev.blt Gv (by rfl) Bl.len.1 Bl.len.2) (Es.cons (Ev.comp (F := []) (x := "one") (Src.of (Ev.name h4) (Itr.lst .lst) (List.nil_sublist _)) (List.nil_sublist _) (p := inHas hs (i : Int)) (f := id) (ρc := capρ [("has", .dct (hasV hs)), ("atom", .int (i : Int))])
        ⟨CompOk.of (by (first | kernel_rfl | decide +kernel)), by rw [List.length_map]; (first | assumption | exact Nat.le_of_ble_eq_true rfl | exact Nat.add_le_add_left (Nat.le_of_ble_eq_true rfl) _ | exact Nat.le_trans (by assumption) (Nat.le_of_ble_eq_true rfl) | lia | omega), CapL.cap (.cons (by (first | kernel_rfl | decide +kernel)) (by rfl) h2 Fzd.same (.cons (by (first | kernel_rfl | decide +kernel)) (by rfl) (by rfl) Fzd.same .nil)), .inl rfl, fun C okc d hd => ?_, fun C okc d hd _ => Ev.name (by rfl)⟩) Es.nil) (.builtin _) (Fn.lenL .lst ?_)) ?_) (.inl (by rfl)) ?_)
    · obtain ⟨y, hy, rfl⟩ := List.mem_map.mp hd
      obtain ⟨ys, e1, e2, _⟩ := look (hbm y hy)
      have e : inHas hs (i : Int) (.str y) = ys.contains (i : Int) := by simp [inHas, e1]
      rw [e]
      exact Tst.one (Te.cmp (Ev.name (d := .int (i : Int)) (by rfl)) (Ev.sub (Ev.name (d := .dct (hasV hs)) (by rfl)) (Ev.name (d := .str y) (by rfl)) (Op2.subDct .dct e2)) (Op2.inLstInt .lst))
    · rw [List.map_id]; exact Nat.le_trans (List.length_filter_le _ _) (by rw [List.length_map]; (first | assumption | exact Nat.le_of_ble_eq_true rfl | exact Nat.add_le_add_left (Nat.le_of_ble_eq_true rfl) _ | exact Nat.le_trans (by assumption) (Nat.le_of_ble_eq_true rfl) | lia | omega))
    · rw [List.map_id, inHas_len]; rfl
    · have hlv : ∀ {ρ : Names} {p1 p2 p3 p4 p5 : Pos}, ρ "plan" = some (.dct (planV P)) → ρ "label" = some (.str l.name) → Ev w H (n + 1) (fenv (top 57).2.2 L f q cd) ρ [] (.Subscript (.Subscript (.Name "plan" p1) (.Name "label" p2) p3) (.Constant (.int 2) 0 p4) p5) (.raw (.bool l.hollow)) [] := fun g1 g2 =>
        Ev.sub (Ev.sub (Ev.name g1) (Ev.name g2) (Op2.subDct .dct (hW.look hl))) Ev.constInt (Op2.subTup (by decide) (by rfl))
      have e1 : decide ((1 : Int) < (timesOf P hs l.name (i : Int) : Int)) = decide (1 < timesOf P hs l.name (i : Int)) := by rw [Bool.eq_iff_iff, decide_eq_true_iff, decide_eq_true_iff]; (first | assumption | exact Nat.le_of_ble_eq_true rfl | exact Nat.add_le_add_left (Nat.le_of_ble_eq_true rfl) _ | exact Nat.le_trans (by assumption) (Nat.le_of_ble_eq_true rfl) | lia | omega)
      have e2 : ((timesOf P hs l.name (i : Int) : Int) == 0) = (timesOf P hs l.name (i : Int) == 0) := by rw [Bool.eq_iff_iff, beq_iff_eq, beq_iff_eq]; (first | assumption | exact Nat.le_of_ble_eq_true rfl | exact Nat.add_le_add_left (Nat.le_of_ble_eq_true rfl) _ | exact Nat.le_trans (by assumption) (Nat.le_of_ble_eq_true rfl) | lia | omega)
      refine Sx.cons (S1.ite (q := partBad P hs l (i : Int)) (Te.cast (Ta.te (Ta.or2 (Te.cmp (Ev.name (d := .int (timesOf P hs l.name (i : Int))) (by rfl)) Ev.constInt Op2.gtInt) (Ta.te (Ta.andC (Te.plain (hlv h1 h3) Tru.bool) fun _ => Ta.andC (Te.cmp (Ev.name h4) (Ev.list Es.nil) (Op2.neLstNil .lst)) fun _ => Ta.andC (Te.cmp (Ev.name (d := .int (i : Int)) (by rfl)) (Ev.sub (Ev.name h2) (Ev.name h3) (Op2.subDct .dct hxl)) (Op2.inLstInt .lst)) fun _ => Ta.andC (Te.cmp (Ev.name (d := .int (timesOf P hs l.name (i : Int))) (by rfl)) Ev.constInt Op2.eqInt) fun _ => Ta.andNil)))) ?_) ?_)
      · unfold partBad; rw [e1, e2, hg, List.isEmpty_map]
      · cases hb : partBad P hs l (i : Int) with
        | true =>
          have hres : partedS P hs l = false := by
            unfold partedS
            rw [List.any_eq_true.mpr ⟨i, List.mem_range.mpr hi, hb⟩]; rfl
          exact Sx.cons (S1.ret Ev.constBool ⟨by rw [hres], [], by simp⟩)
        | false =>
          refine Sx.nil (Sx.nil ⟨rfl, h1, h2, h3, h4, ?_⟩)
          rw [List.range_succ, List.any_append, h5]
          simp [hb]
  · rintro ρ' own' ⟨rfl, h1, h2, h3, h4, h5⟩
    have e4 : (upto 4).length = 4 := rfl
    rw [e4] at h5
    exact Sx.cons (S1.ret Ev.constBool ⟨by unfold partedS; rw [h5]; rfl, [], by simp⟩)
end
end Mine
end
section
open PySem PySem.W PyProof.Rows PySem.MeetsSeq PySem.SeqAt
set_option maxRecDepth 100000
namespace Mine

/-- what an item of a signature tells -/
noncomputable def itemV (l : Lab) : V := .tup [.str "sig", .int 0, .tup [.str l.name], .raw (.bool l.hollow), .str l.mark, .str l.parent, .tup (l.parts.map .str), .tup [], .tup []]
noncomputable def entV (Q : List Lab) : List (Str × V) := Q.map fun l => (l.name, itemV l)

theorem look_entV : ∀ {Q : List Lab} {l : Lab}, (names Q).Nodup → l ∈ Q → lookV (entV Q) l.name = some (itemV l)
  | k :: Q, l, hn, hl => by
    show lookV ((k.name, itemV k) :: entV Q) l.name = _
    rw [look_cons]
    have hn' := List.nodup_cons.mp hn
    by_cases e : k.name = l.name
    · rw [if_pos e]
      rcases List.mem_cons.mp hl with rfl | h
      · rfl
      · exact absurd (show k.name ∈ names Q by rw [e]; exact List.mem_map_of_mem (f := (·.name)) h) hn'.1
    · rw [if_neg e]
      rcases List.mem_cons.mp hl with rfl | h
      · exact absurd rfl e
      · exact look_entV hn'.2 h

section
variable {w : World} {H Z : Heap} {n : Nat} {pk : List Addr} {env : Env} {ρ ρc : Names} {o₀ o₁ o₂ o₃ own own₁ own₂ F : Own} {N : Names → Own → Prop} {R : V → Own → Prop} {sts : List Stmt} {st : Stmt} {mg mb : Str → Option Value} {K : Frag}

/-- the signatures' class and its methods -/
structure SigC (H : Heap) (K : Frag) (mg : Str → Option Value) (C : Addr) : Prop where
  cls : InstCls K C ["entries", "stands", "opened", "ordered", "own_fields"]
  makes : makesIn K C = true
  init : ∃ f, MethAt H K C "__init__" (mem 50 0) f
  take_sig : ∃ f, MethAt H K C "take_sig" (mem 50 1) f
  look_above : ∃ f, MethAt H K C "look_above" (mem 50 2) f
  direct : ∃ f, MethAt H K C "direct" (mem 50 3) f
  parents_first : ∃ f, MethAt H K C "parents_first" (mem 50 4) f
  all_fields : ∃ f, MethAt H K C "all_fields" (mem 50 5) f
  look_fields : ∃ f, MethAt H K C "look_fields" (mem 50 6) f
  parent : ∃ f, MethAt H K C "parent" (mem 50 11) f
  supers : ∃ f, MethAt H K C "supers" (mem 50 12) f
  is_subset : ∃ f, MethAt H K C "is_subset" (mem 50 13) f
  children : ∃ f, MethAt H K C "children" (mem 50 14) f
  is_abstract : ∃ f, MethAt H K C "is_abstract" (mem 50 18) f
  mult : ∃ f, MethAt H K C "mult" (mem 50 19) f

/-- an instance whose entries are those of the list -/
structure SigOk (own : Own) (s : V) (C : Addr) (fs : List (Str × V)) (E : V) (Q : List Lab) : Prop where
  isI : AsI own s C fs
  ent : lookV fs "entries" = some E
  hand : E.handed = true
  isD : AsD own E (entV Q)
  nd : (names Q).Nodup

theorem parent_fn {C f : Addr} {s E : V} {fs : List (Str × V)} {Q : List Lab} {l : Lab} (Gv : Gl H mg mb) (X₀ : K.In H) (S : SigC H K mg C) (D : DefAt H f (mem 50 11)) (hs : SigOk own s C fs E Q) (hl : l ∈ Q) :
    Fn w H (n + 1) (.ref f) own [s, .str l.name] (.str l.parent) own := by
  refine Fn.enter Gv D P_sg_parent rfl rfl fun L q cd ok => ?_
  exact Sx.cons (S1.ret (Ev.sub (Ev.sub (Ev.attr X₀ (Ev.name (d := s) (by rfl)) hs.isI S.cls.ok (S.cls.at_ "entries" (by (first | kernel_rfl | decide +kernel))).1 hs.ent hs.hand) (Ev.name (d := .str l.name) (by rfl)) (Op2.subDct hs.isD (look_entV hs.nd hl))) Ev.constInt (Op2.subTup (by decide) (by rfl))) ⟨rfl, [], by simp⟩)
theorem abstract_fn {C f : Addr} {s E : V} {fs : List (Str × V)} {Q : List Lab} {l : Lab} (Gv : Gl H mg mb) (X₀ : K.In H) (S : SigC H K mg C) (D : DefAt H f (mem 50 18)) (hs : SigOk own s C fs E Q) (hl : l ∈ Q) :
    Fn w H (n + 1) (.ref f) own [s, .str l.name] (.raw (.bool l.hollow)) own := by
  refine Fn.enter Gv D P_sg_abstract rfl rfl fun L q cd ok => ?_
  exact Sx.cons (S1.ret (Ev.sub (Ev.sub (Ev.attr X₀ (Ev.name (d := s) (by rfl)) hs.isI S.cls.ok (S.cls.at_ "entries" (by (first | kernel_rfl | decide +kernel))).1 hs.ent hs.hand) (Ev.name (d := .str l.name) (by rfl)) (Op2.subDct hs.isD (look_entV hs.nd hl))) Ev.constInt (Op2.subTup (by decide) (by rfl))) ⟨rfl, [], by simp⟩)
theorem mult_fn {C f : Addr} {s E : V} {fs : List (Str × V)} {Q : List Lab} {l : Lab} (Gv : Gl H mg mb) (X₀ : K.In H) (S : SigC H K mg C) (D : DefAt H f (mem 50 19)) (hs : SigOk own s C fs E Q) (hl : l ∈ Q) :
    Fn w H (n + 1) (.ref f) own [s, .str l.name] (.str l.mark) own := by
  refine Fn.enter Gv D P_sg_mult rfl rfl fun L q cd ok => ?_
  exact Sx.cons (S1.ret (Ev.sub (Ev.sub (Ev.attr X₀ (Ev.name (d := s) (by rfl)) hs.isI S.cls.ok (S.cls.at_ "entries" (by (first | kernel_rfl | decide +kernel))).1 hs.ent hs.hand) (Ev.name (d := .str l.name) (by rfl)) (Op2.subDct hs.isD (look_entV hs.nd hl))) Ev.constInt (Op2.subTup (by decide) (by rfl))) ⟨rfl, [], by simp⟩)

theorem supers_fn {C f : Addr} {s E : V} {fs : List (Str × V)} {Q : List Lab} {l : Lab} (Gv : Gl H mg mb) (Bl : Blts mg mb) (X₀ : K.In H) (S : SigC H K mg C) (D : DefAt H f (mem 50 12)) (hs : SigOk own s C fs E Q) (hl : l ∈ Q) :
    Fn w H (n + 1) (.ref f) own [s, .str l.name] (.tup (l.parts.map .str)) own := by
  refine Fn.enter Gv D P_sg_supers rfl rfl fun L q cd ok => ?_
  exact Sx.cons (S1.ret (Ev.call (o₁ := []) (o₂ := []) (o₃ := []) (r := own) (Ev.blt Gv (by rfl) Bl.tuple.1 Bl.tuple.2) (Es.cons (Ev.sub (Ev.sub (Ev.attr X₀ (Ev.name (d := s) (by rfl)) hs.isI S.cls.ok (S.cls.at_ "entries" (by (first | kernel_rfl | decide +kernel))).1 hs.ent hs.hand) (Ev.name (d := .str l.name) (by rfl)) (Op2.subDct hs.isD (look_entV hs.nd hl))) Ev.constInt (Op2.subTup (by decide) (by rfl))) Es.nil) (.type _) Fn.tupleT) ⟨rfl, [], by simp⟩)

theorem subset_fn {C f : Addr} {s E : V} {fs : List (Str × V)} {Q : List Lab} {l : Lab} (Gv : Gl H mg mb) (Bl : Blts mg mb) (X₀ : K.In H) (S : SigC H K mg C) (D : DefAt H f (mem 50 13)) (hs : SigOk own s C fs E Q) (hl : l ∈ Q) (hz : l.parts.length ≤ 10) :
    Fn w H (n + 1) (.ref f) own [s, .str l.name] (.raw (.bool (!l.parts.isEmpty))) own := by
  refine Fn.enter Gv D P_sg_subset rfl rfl fun L q cd ok => ?_
  refine Sx.cons (S1.ret (Ev.cmp (Ev.call (o₁ := []) (o₂ := []) (o₃ := []) (r := own) (Ev.blt Gv (by rfl) Bl.len.1 Bl.len.2) (Es.cons (Ev.sub (Ev.sub (Ev.attr X₀ (Ev.name (d := s) (by rfl)) hs.isI S.cls.ok (S.cls.at_ "entries" (by (first | kernel_rfl | decide +kernel))).1 hs.ent hs.hand) (Ev.name (d := .str l.name) (by rfl)) (Op2.subDct hs.isD (look_entV hs.nd hl))) Ev.constInt (Op2.subTup (d := .tup (l.parts.map .str)) (by decide) (by rfl))) Es.nil) (.builtin _) (Fn.lenT (by rw [List.length_map]; (first | assumption | exact Nat.le_of_ble_eq_true rfl | exact Nat.add_le_add_left (Nat.le_of_ble_eq_true rfl) _ | exact Nat.le_trans (by assumption) (Nat.le_of_ble_eq_true rfl) | lia | omega)))) Ev.constInt Op2.gtInt) ⟨?_, [], by simp⟩)
  rw [List.length_map]
  cases l.parts with
  | nil => rfl
  | cons x xs =>
    congr 2
    simp only [List.length_cons, List.isEmpty_cons, Bool.not_false, decide_eq_true_eq]
    (first | assumption | exact Nat.le_of_ble_eq_true rfl | exact Nat.add_le_add_left (Nat.le_of_ble_eq_true rfl) _ | exact Nat.le_trans (by assumption) (Nat.le_of_ble_eq_true rfl) | lia | omega)

/-- a method's call that keeps all in hand -/
theorem Ev.methO {K : Frag} {o : Expr} {args : List Expr} {name : Str} {apos pos : Pos} {a d : V} {C f : Addr} {fs : List (Str × V)} {ds : List V} {dd : Arguments × List Stmt × Scope} (X : K.In H) (x : Ev w H n env ρ own o a own) (hi : AsI own a C fs) (hC : ClsOk K C)
    (M : MethAt H K C name dd f) (hl : lookV fs name = none)
    (y : Es w H n env ρ own args ds own) (h : Fn w H n (.ref f) own (a :: ds) d own)
    (hp : ∀ pos, (backTo pos (starEach args env)).any (·.1) = false := by intro _; rfl)
    (he : ∃ pl, eval (.Call (.Attribute o name apos) args [] pos) env = (do
      let ov ← eval o env
      standAt apos.atName
      let (f, first) ← holding [ov] (getMethod ov name pl)
      callWith pos f first (backTo pos (starEach args env)) (backToKw pos (keywordEach [] env))) := by exact ⟨_, rfl⟩) : Ev w H n env ρ own (.Call (.Attribute o name apos) args [] pos) d own := by
  obtain ⟨ob, fd, k1, k2, k3⟩ := M.obj
  have := Ev.meth (o₁ := own) (o₂ := own) (o₃ := own) (r := []) X (by rw [List.append_nil]; exact x) (by rw [List.append_nil]; exact hi) hC M.find k1 k2 k3 hl (by rw [List.append_nil]; exact y) h hp he
  rw [List.append_nil] at this
  exact this

theorem direct_fn {C f : Addr} {s E : V} {fs : List (Str × V)} {Q : List Lab} {l : Lab} (Gv : Gl H mg mb) (Bl : Blts mg mb) (X₀ : K.In H) (S : SigC H K mg C) (D : DefAt H f (mem 50 3)) (hs : SigOk own s C fs E Q) (hl : l ∈ Q) (hz : l.parts.length ≤ 10) (h1 : lookV fs "parent" = none) (h2 : lookV fs "supers" = none) :
    Fn w H (n + 2) (.ref f) own [s, .str l.name] (.tup (((if l.parent = ("" : Str) then [] else [l.parent]) ++ l.parts).map .str)) own := by
  obtain ⟨fp, Mp⟩ := S.parent
  obtain ⟨fu, Mu⟩ := S.supers
  refine Fn.enter (n := n + 1) Gv D P_sg_direct rfl rfl fun L q cd ok => ?_
  by_cases hp : l.parent = ("" : Str)
  · have hq : (l.parent != ("" : Str)) = false := by rw [hp]; (first | kernel_rfl | decide +kernel)
    rw [if_pos hp]
    exact Sx.cons (S1.ret (Ev.binop (Ev.ifF (Te.cast (Te.cmp (Ev.methO X₀ (Ev.name (d := s) (by rfl)) hs.isI S.cls.ok Mp h1 (Es.cons (Ev.name (d := .str l.name) (by rfl)) Es.nil) (parent_fn Gv X₀ S Mp.at_ hs hl)) Ev.constStr Op2.neStr) hq) (Ev.tuple Es.nil)) (Ev.methO X₀ (Ev.name (d := s) (by rfl)) hs.isI S.cls.ok Mu h2 (Es.cons (Ev.name (d := .str l.name) (by rfl)) Es.nil) (supers_fn Gv Bl X₀ S Mu.at_ hs hl)) (Op2.addTup (ds := []) (by simp; (first | assumption | exact Nat.le_of_ble_eq_true rfl | exact Nat.add_le_add_left (Nat.le_of_ble_eq_true rfl) _ | exact Nat.le_trans (by assumption) (Nat.le_of_ble_eq_true rfl) | lia | omega)))) ⟨rfl, [], by simp⟩)
  · have hq : (l.parent != ("" : Str)) = true := by simpa using hp
    rw [if_neg hp]
    exact Sx.cons (S1.ret (Ev.binop (Ev.ifT (Te.cast (Te.cmp (Ev.methO X₀ (Ev.name (d := s) (by rfl)) hs.isI S.cls.ok Mp h1 (Es.cons (Ev.name (d := .str l.name) (by rfl)) Es.nil) (parent_fn Gv X₀ S Mp.at_ hs hl)) Ev.constStr Op2.neStr) hq) (Ev.tuple (Es.cons (Ev.methO X₀ (Ev.name (d := s) (by rfl)) hs.isI S.cls.ok Mp h1 (Es.cons (Ev.name (d := .str l.name) (by rfl)) Es.nil) (parent_fn Gv X₀ S Mp.at_ hs hl)) Es.nil))) (Ev.methO X₀ (Ev.name (d := s) (by rfl)) hs.isI S.cls.ok Mu h2 (Es.cons (Ev.name (d := .str l.name) (by rfl)) Es.nil) (supers_fn Gv Bl X₀ S Mu.at_ hs hl)) (Op2.addTup (ds := [.str l.parent]) (by simp; (first | assumption | exact Nat.le_of_ble_eq_true rfl | exact Nat.add_le_add_left (Nat.le_of_ble_eq_true rfl) _ | exact Nat.le_trans (by assumption) (Nat.le_of_ble_eq_true rfl) | lia | omega)))) ⟨rfl, [], by simp⟩)

/-- the opener: what relation reads of it -/
theorem relation_fn {C f : Addr} {o : V} {fs : List (Str × V)} {N : V} {nums : List (Str × V)} {x : Str} {k : Int} (Gv : Gl H mg mb) (X₀ : K.In H) (hC : ClsOk K C) (ha : findIn K (.ref C) "numbers" = some none) (D : DefAt H f (top 4)) (hs : AsI own o C fs) (hN : lookV fs "numbers" = some N) (hh : N.handed = true) (hD : AsD own N nums) (hx : lookV nums x = some (.int k)) :
    Fn w H (n + 1) (.ref f) own [o, .str x] (X.rel k).v own := by
  refine Fn.enter Gv D P_relation rfl rfl fun L q cd ok => ?_
  exact Sx.cons (S1.ret (Ev.tuple (Es.cons Ev.constStr (Es.cons (Ev.sub (Ev.attr X₀ (Ev.name (d := o) (by rfl)) hs hC ha hN hh) (Ev.name (d := .str x) (by rfl)) (Op2.subDct hD hx)) Es.nil))) ⟨rfl, [], by simp⟩)
end
end Mine
end
section
open PySem PySem.W PyProof.Rows PySem.MeetsSeq PySem.SeqAt
set_option maxRecDepth 100000
namespace Mine

noncomputable def parOf (Q : List Lab) (y : Str) : Str := match findL Q y with
  | some l => l.parent
  | none => ("" : Str)
noncomputable def parIs (Q : List Lab) (x : Str) : V → Bool
  | .str y => parOf Q y == x
  | _ => false
noncomputable def kids (Q : List Lab) (x : Str) : List Str := (names Q).filter fun y => parOf Q y == x
theorem kids_eq {Q : List Lab} {x : Str} : ∀ {ys : List Str}, ((ys.map V.str).filter (parIs Q x)).map id = (ys.filter fun y => parOf Q y == x).map .str
  | [] => rfl
  | y :: ys => by
    rw [List.map_cons, List.filter_cons, List.filter_cons]
    show (if (parOf Q y == x) = true then _ else _ : List V).map id = _
    cases h : parOf Q y == x
    · simpa using kids_eq (ys := ys)
    · simpa using kids_eq (ys := ys)
theorem findL_mem : ∀ {Q : List Lab} {l : Lab}, (names Q).Nodup → l ∈ Q → findL Q l.name = some l
  | k :: Q, l, hn, hl => by
    have hn' := List.nodup_cons.mp hn
    unfold findL
    rw [List.find?_cons]
    by_cases e : k.name = l.name
    · rcases List.mem_cons.mp hl with rfl | h
      · simp
      · exact absurd (show k.name ∈ names Q by rw [e]; exact List.mem_map_of_mem (f := (·.name)) h) hn'.1
    · rcases List.mem_cons.mp hl with rfl | h
      · exact absurd rfl e
      · have : decide (k.name = l.name) = false := by simpa using e
        rw [this]
        exact findL_mem hn'.2 h

section
variable {w : World} {H Z : Heap} {n : Nat} {pk : List Addr} {env : Env} {ρ ρc : Names} {o₀ o₁ o₂ o₃ own own₁ own₂ F : Own} {N : Names → Own → Prop} {R : V → Own → Prop} {sts : List Stmt} {st : Stmt} {mg mb : Str → Option Value} {K : Frag}

theorem children_fn {C f : Addr} {E : V} {fs : List (Str × V)} {Q : List Lab} {l : Lab} {x : Str} (Gv : Gl H mg mb) (X₀ : K.In H) (S : SigC H K mg C) (D : DefAt H f (mem 50 14)) (hs : SigOk [] (.ins C fs) C fs E Q) (hst : lookV fs "stands" = some (.lst ((names Q).map .str))) (hp : lookV fs "parent" = none) (hQ : Q.length ≤ 100) :
    Fn w H (n + 2) (.ref f) [] [.ins C fs, .str x] (.lst ((kids Q x).map .str)) [] := by
  obtain ⟨fp, Mp⟩ := S.parent
  refine Fn.enter (n := n + 1) Gv D P_sg_children rfl rfl fun L q cd ok => ?_
  refine Sx.cons (S1.ret (Ev.comp (F := []) (x := "other") (Src.of (Ev.attr X₀ (Ev.name (d := .ins C fs) (by rfl)) .ins S.cls.ok (S.cls.at_ "stands" (by (first | kernel_rfl | decide +kernel))).1 hst) (Itr.lst .lst) (List.nil_sublist _)) (List.nil_sublist _) (p := parIs Q x) (f := id) (ρc := capρ [("self", .ins C fs), ("name", .str x)])
      ⟨CompOk.of (by (first | kernel_rfl | decide +kernel)), by rw [List.length_map, List.length_map]; (first | assumption | exact Nat.le_of_ble_eq_true rfl | exact Nat.add_le_add_left (Nat.le_of_ble_eq_true rfl) _ | exact Nat.le_trans (by assumption) (Nat.le_of_ble_eq_true rfl) | lia | omega), CapL.cap (.cons (by (first | kernel_rfl | decide +kernel)) (by rfl) (by rfl) Fzd.same (.cons (by (first | kernel_rfl | decide +kernel)) (by rfl) (by rfl) Fzd.same .nil)), .inl rfl, fun C' okc d hd => ?_, fun C' okc d hd _ => Ev.name (by rfl)⟩) ⟨congrArg V.lst kids_eq, [], by simp⟩)
  obtain ⟨y, hy, rfl⟩ := List.mem_map.mp hd
  obtain ⟨l, hl, rfl⟩ := List.mem_map.mp hy
  have e : parIs Q x (.str l.name) = (l.parent == x) := by
    show (parOf Q l.name == x) = _
    unfold parOf
    rw [findL_mem hs.nd hl]
  rw [e]
  exact Tst.one (Te.cmp (Ev.methO X₀ (Ev.name (d := .ins C fs) (by rfl)) .ins S.cls.ok Mp hp (Es.cons (Ev.name (d := .str l.name) (by rfl)) Es.nil) (parent_fn Gv X₀ S Mp.at_ hs hl)) (Ev.name (d := .str x) (by rfl)) Op2.eqStr)
end
end Mine
end
section
open PySem PySem.W PyProof.Rows PySem.MeetsSeq PySem.SeqAt
set_option maxRecDepth 100000
namespace Mine

noncomputable def isSome1 (m : Str) : Bool := (["one", "lone", "some"] : List Str).contains m
noncomputable def placeF (nm : Str → Int) (l : Lab) : List Fo :=
  (if l.parent = ("" : Str) then [] else [.inn (.rel (nm l.name)) (.rel (nm l.parent))]) ++
  (if l.parts = [] then [] else [.inn (.rel (nm l.name)) (unite (l.parts.map fun y => .rel (nm y)))]) ++
  (if isSome1 l.mark then [.mul l.mark (.rel (nm l.name))] else [])

noncomputable def relV (nm : Str → Int) : V → V
  | .str y => (X.rel (nm y)).v
  | _ => .int 0
theorem rels_eq {nm : Str → Int} : ∀ {ys : List Str}, (((ys.map V.str).filter fun _ => true).map (relV nm)) = (ys.map fun y => X.rel (nm y)).map X.v
  | [] => rfl
  | y :: ys => by
    have := rels_eq (nm := nm) (ys := ys)
    simp only [List.map_cons, List.filter_cons, if_true]
    rw [this]; rfl

section
variable {w : World} {H Z : Heap} {n : Nat} {pk : List Addr} {env : Env} {ρ ρc : Names} {o₀ o₁ o₂ o₃ own own₁ own₂ F : Own} {N : Names → Own → Prop} {R : V → Own → Prop} {sts : List Stmt} {st : Stmt} {mg mb : Str → Option Value} {K : Frag}

/-- an opener with its numbers -/
structure OpOk (K : Frag) (o : V) (C : Addr) (fs : List (Str × V)) (nums : List (Str × V)) (nm : Str → Int) (ns : List Str) : Prop where
  eq : o = .ins C fs
  ok : ClsOk K C
  at_ : findIn K (.ref C) "numbers" = some none
  num : lookV fs "numbers" = some (.dct nums)
  look : ∀ x ∈ ns, lookV nums x = some (.int (nm x))

theorem OpOk.fn {C f : Addr} {o : V} {fs nums : List (Str × V)} {nm : Str → Int} {ns : List Str} {x : Str} (O : OpOk K o C fs nums nm ns) (Gv : Gl H mg mb) (X₀ : K.In H) (D : DefAt H f (top 4)) (hx : x ∈ ns) : Fn w H (n + 1) (.ref f) own [o, .str x] (X.rel (nm x)).v own :=
  relation_fn Gv X₀ O.ok O.at_ D (.inl O.eq) O.num rfl .dct (O.look x hx)

theorem place_fn {f fr fu C CO : Addr} {s o : V} {fs fo nums : List (Str × V)} {nm : Str → Int} {E : V} {Q : List Lab} {l : Lab} (Gv : Gl H mg mb) (Bl : Blts mg mb) (X₀ : K.In H) (S : SigC H K mg C) (D : DefAt H f (top 5)) (Hr : Has H mg "relation" (top 4) fr) (Hu : Has H mg "united_implicit" (top 2) fu)
    (hs : SigOk [] (.ins C fs) C fs E Q) (hf : lookV fs "parent" = none ∧ lookV fs "supers" = none ∧ lookV fs "mult" = none) (O : OpOk K o CO fo nums nm (names Q)) (hl : l ∈ Q) (hpar : l.parent = ("" : Str) ∨ l.parent ∈ names Q) (hparts : ∀ y ∈ l.parts, y ∈ names Q) (hz : l.parts.length ≤ 10) :
    Fn w H (n + 20) (.ref f) [] [.ins C fs, o, .str l.name] (.lst ((placeF nm l).map Fo.v)) [] := by
  obtain ⟨fp, Mp⟩ := S.parent
  obtain ⟨fsu, Ms⟩ := S.supers
  obtain ⟨fm, Mm⟩ := S.mult
  have hsf : ∀ own, SigOk own (.ins C fs) C fs E Q := fun own => ⟨.inl rfl, hs.ent, hs.hand, (hs.isD.elim (fun h => .inl h) fun ⟨_, _, h⟩ => nomatch h), hs.nd⟩
  have hln : l.name ∈ names Q := List.mem_map_of_mem (f := (·.name)) hl
  have rest3 : ∀ (L : Addr) (q : Str) (cd : Value) (ρ' : Names) (a : Addr) (ds : List V), ds.length ≤ 2 → ρ' "signatures" = some (.ins C fs) → ρ' "name" = some (.str l.name) → ρ' "own" = some (X.rel (nm l.name)).v → ρ' "found" = some (.raw (.ref a)) → ds ++ (if isSome1 l.mark then [Fo.v (.mul l.mark (.rel (nm l.name)))] else []) = (placeF nm l).map Fo.v →
      Sx w H (n + 19) [] (fenv (top 5).2.2 L f q cd) ((top 5).2.1.drop 3) ρ' [(a, .list ds)] (NoneF (V.lst ((placeF nm l).map Fo.v)) []) (RetF (V.lst ((placeF nm l).map Fo.v)) []) := by
    intro L q cd ρ' a ds hd g1 g2 g3 g4 he
    refine Sx.cons (S1.ite (q := isSome1 l.mark) (Te.cast (Te.cmp (Ev.methO X₀ (Ev.name g1) .ins S.cls.ok Mm hf.2.2 (Es.cons (Ev.name g2) Es.nil) ((mult_fn (n := n) Gv X₀ S Mm.at_ (hsf _) hl).le (by (first | assumption | exact Nat.le_of_ble_eq_true rfl | exact Nat.add_le_add_left (Nat.le_of_ble_eq_true rfl) _ | exact Nat.le_trans (by assumption) (Nat.le_of_ble_eq_true rfl) | lia | omega)))) (Ev.tuple (Es.cons Ev.constStr (Es.cons Ev.constStr (Es.cons Ev.constStr Es.nil)))) (Op2.inTupStr (xs := ["one", "lone", "some"]))) rfl) ?_)
    cases hm : isSome1 l.mark with
    | false =>
      rw [hm] at he
      refine Sx.nil (Sx.cons (S1.retL (Ev.name g4) (by simp) ⟨?_, [], rfl⟩))
      rw [← he]; simp
    | true =>
      rw [hm] at he
      refine Sx.cons (S1.append (l := []) (r := []) (Ev.name g4) (.head _) (Ev.tuple (Es.cons (Ev.methO X₀ (Ev.name g1) .ins S.cls.ok Mm hf.2.2 (Es.cons (Ev.name g2) Es.nil) ((mult_fn (n := n) Gv X₀ S Mm.at_ (hsf _) hl).le (by (first | assumption | exact Nat.le_of_ble_eq_true rfl | exact Nat.add_le_add_left (Nat.le_of_ble_eq_true rfl) _ | exact Nat.le_trans (by assumption) (Nat.le_of_ble_eq_true rfl) | lia | omega)))) (Es.cons (Ev.name g3) Es.nil))) (by (first | assumption | exact Nat.le_of_ble_eq_true rfl | exact Nat.add_le_add_left (Nat.le_of_ble_eq_true rfl) _ | exact Nat.le_trans (by assumption) (Nat.le_of_ble_eq_true rfl) | lia | omega)) (Sx.nil ?_))
      refine Sx.cons (S1.retL (Ev.name g4) (by simp) ⟨?_, [], rfl⟩)
      rw [← he]; rfl
  have rest2 : ∀ (L : Addr) (q : Str) (cd : Value), EnvOk (fenv (top 5).2.2 L f q cd) → ∀ (ρ' : Names) (a : Addr) (ds : List V), ds.length ≤ 1 → ρ' "signatures" = some (.ins C fs) → ρ' "name" = some (.str l.name) → ρ' "opener" = some o → ρ' "own" = some (X.rel (nm l.name)).v → ρ' "found" = some (.raw (.ref a)) → ds ++ ((if l.parts = [] then [] else [Fo.inn (.rel (nm l.name)) (unite (l.parts.map fun y => .rel (nm y)))]) ++ (if isSome1 l.mark then [Fo.mul l.mark (.rel (nm l.name))] else [])).map Fo.v = (placeF nm l).map Fo.v →
      Sx w H (n + 19) [] (fenv (top 5).2.2 L f q cd) ((top 5).2.1.drop 2) ρ' [(a, .list ds)] (NoneF (V.lst ((placeF nm l).map Fo.v)) []) (RetF (V.lst ((placeF nm l).map Fo.v)) []) := by
    intro L q cd ok ρ' a ds hd g1 g2 g5 g3 g4 he
    refine Sx.cons (S1.ite (q := decide (0 < l.parts.length)) (Te.cast (Te.cmp (Ev.call (o₁ := []) (o₂ := []) (o₃ := []) (r := [(a, .list ds)]) (Ev.blt Gv (by rfl) Bl.len.1 Bl.len.2) (Es.cons (Ev.methO X₀ (Ev.name g1) .ins S.cls.ok Ms hf.2.1 (Es.cons (Ev.name g2) Es.nil) ((supers_fn (n := n) Gv Bl X₀ S Ms.at_ (hsf _) hl).le (by (first | assumption | exact Nat.le_of_ble_eq_true rfl | exact Nat.add_le_add_left (Nat.le_of_ble_eq_true rfl) _ | exact Nat.le_trans (by assumption) (Nat.le_of_ble_eq_true rfl) | lia | omega)))) Es.nil) (.builtin _) (Fn.lenT (by rw [List.length_map]; (first | assumption | exact Nat.le_of_ble_eq_true rfl | exact Nat.add_le_add_left (Nat.le_of_ble_eq_true rfl) _ | exact Nat.le_trans (by assumption) (Nat.le_of_ble_eq_true rfl) | lia | omega)))) Ev.constInt Op2.gtInt) ?_) ?_)
    · rw [List.length_map, Bool.eq_iff_iff, decide_eq_true_iff, decide_eq_true_iff]; (first | assumption | exact Nat.le_of_ble_eq_true rfl | exact Nat.add_le_add_left (Nat.le_of_ble_eq_true rfl) _ | exact Nat.le_trans (by assumption) (Nat.le_of_ble_eq_true rfl) | lia | omega)
    by_cases hm : l.parts = []
    · rw [if_pos hm] at he
      have e0 : decide (0 < l.parts.length) = false := by rw [hm]; rfl
      rw [e0]
      refine Sx.nil (rest3 L q cd ρ' a ds (by (first | assumption | exact Nat.le_of_ble_eq_true rfl | exact Nat.add_le_add_left (Nat.le_of_ble_eq_true rfl) _ | exact Nat.le_trans (by assumption) (Nat.le_of_ble_eq_true rfl) | lia | omega)) g1 g2 g3 g4 ?_)
      rw [← he]
      cases isSome1 l.mark <;> rfl
    · rw [if_neg hm] at he
      have h0 : 0 < l.parts.length := List.length_pos_iff.mpr hm
      have e0 : decide (0 < l.parts.length) = true := decide_eq_true h0
      rw [e0]
      refine Sx.cons (S1.append (l := []) (r := []) (d := (Fo.inn (.rel (nm l.name)) (unite (l.parts.map fun y => .rel (nm y)))).v) (Ev.name g4) (.head _) (Ev.tuple (Es.cons Ev.constStr (Es.cons (Ev.name g3) (Es.cons (Ev.call (o₁ := []) (o₂ := []) (o₃ := []) (r := [(a, .list ds)]) (Ev.glob Gv (by rfl) Hu.nm) (Es.cons (Ev.cast (d' := .lst ((l.parts.map fun y => X.rel (nm y)).map X.v)) (Ev.comp (F := []) (x := "one") (Src.of (Ev.methO X₀ (Ev.name g1) .ins S.cls.ok Ms hf.2.1 (Es.cons (Ev.name g2) Es.nil) ((supers_fn (n := n) Gv Bl X₀ S Ms.at_ (hsf _) hl).le (by (first | assumption | exact Nat.le_of_ble_eq_true rfl | exact Nat.add_le_add_left (Nat.le_of_ble_eq_true rfl) _ | exact Nat.le_trans (by assumption) (Nat.le_of_ble_eq_true rfl) | lia | omega)))) Itr.tup (List.nil_sublist _)) (List.nil_sublist _) (p := fun _ => true) (f := relV nm) (ρc := capρ [("opener", o)])
        ⟨CompOk.of (by (first | kernel_rfl | decide +kernel)), by rw [List.length_map]; (first | assumption | exact Nat.le_of_ble_eq_true rfl | exact Nat.add_le_add_left (Nat.le_of_ble_eq_true rfl) _ | exact Nat.le_trans (by assumption) (Nat.le_of_ble_eq_true rfl) | lia | omega), CapL.cap (.cons (by (first | kernel_rfl | decide +kernel)) (by rfl) g5 Fzd.same .nil), .inl rfl, fun C okc d hd => Tst.nil, fun C okc d hd _ => ?_⟩) (congrArg V.lst rels_eq)) Es.nil) Hu.kind ((united_fn (n := n) Gv Bl Hu l.parts.length (l.parts.map fun y => X.rel (nm y)) (by rw [List.length_map]) h0 (by (first | assumption | exact Nat.le_of_ble_eq_true rfl | exact Nat.add_le_add_left (Nat.le_of_ble_eq_true rfl) _ | exact Nat.le_trans (by assumption) (Nat.le_of_ble_eq_true rfl) | lia | omega))).le (by (first | assumption | exact Nat.le_of_ble_eq_true rfl | exact Nat.add_le_add_left (Nat.le_of_ble_eq_true rfl) _ | exact Nat.le_trans (by assumption) (Nat.le_of_ble_eq_true rfl) | lia | omega)))) Es.nil)))) (by (first | assumption | exact Nat.le_of_ble_eq_true rfl | exact Nat.add_le_add_left (Nat.le_of_ble_eq_true rfl) _ | exact Nat.le_trans (by assumption) (Nat.le_of_ble_eq_true rfl) | lia | omega)) (Sx.nil ?_))
      · obtain ⟨y, hy, rfl⟩ := List.mem_map.mp hd
        exact Ev.call (o₁ := []) (o₂ := []) (o₃ := []) (r := []) (Ev.glob Gv (by rfl) Hr.nm) (Es.cons (Ev.name (d := o) (by rfl)) (Es.cons (Ev.name (d := .str y) (by rfl)) Es.nil)) Hr.kind ((O.fn (n := n) Gv X₀ Hr.at_ (hparts y hy)).le (by (first | assumption | exact Nat.le_of_ble_eq_true rfl | exact Nat.add_le_add_left (Nat.le_of_ble_eq_true rfl) _ | exact Nat.le_trans (by assumption) (Nat.le_of_ble_eq_true rfl) | lia | omega)))
      · refine rest3 L q cd ρ' a _ (by simp; (first | assumption | exact Nat.le_of_ble_eq_true rfl | exact Nat.add_le_add_left (Nat.le_of_ble_eq_true rfl) _ | exact Nat.le_trans (by assumption) (Nat.le_of_ble_eq_true rfl) | lia | omega)) g1 g2 g3 g4 ?_
        rw [← he]
        cases isSome1 l.mark <;> simp
  refine Fn.enter (n := n + 19) Gv D P_place rfl rfl fun L q cd ok => ?_
  refine Sx.cons (S1.tupS (names := ["own", "found"]) (Eg.tuple (Egs.cons (Eg.of (Ev.call (o₁ := []) (o₂ := []) (o₃ := []) (r := []) (Ev.glob Gv (by rfl) Hr.nm) (Es.cons (Ev.name (d := o) (by rfl)) (Es.cons (Ev.name (d := .str l.name) (by rfl)) Es.nil)) Hr.kind ((O.fn (n := n) Gv X₀ Hr.at_ hln).le (by (first | assumption | exact Nat.le_of_ble_eq_true rfl | exact Nat.add_le_add_left (Nat.le_of_ble_eq_true rfl) _ | exact Nat.le_trans (by assumption) (Nat.le_of_ble_eq_true rfl) | lia | omega)))) (Egs.cons (Eg.list fun a ha1 ha2 => Egs.nil ⟨by simp, _, rfl, rfl, ?_⟩))))) (st2 (.inl (by rfl)) (.inl (by rfl))))
  have par : ∀ {own : Own}, Fn w H (n + 19) (.ref fp) own [.ins C fs, .str l.name] (.str l.parent) own := fun {own} => (parent_fn (n := n) Gv X₀ S Mp.at_ (hsf _) hl).le (by (first | assumption | exact Nat.le_of_ble_eq_true rfl | exact Nat.add_le_add_left (Nat.le_of_ble_eq_true rfl) _ | exact Nat.le_trans (by assumption) (Nat.le_of_ble_eq_true rfl) | lia | omega))
  by_cases hp : l.parent = ("" : Str)
  · have hq : (l.parent != ("" : Str)) = false := by rw [hp]; (first | kernel_rfl | decide +kernel)
    refine Sx.cons (S1.ite (q := false) (Te.cast (Te.cmp (Ev.methO X₀ (Ev.name (d := .ins C fs) (by rfl)) .ins S.cls.ok Mp hf.1 (Es.cons (Ev.name (d := .str l.name) (by rfl)) Es.nil) par) Ev.constStr Op2.neStr) hq) (Sx.nil ?_))
    refine rest2 L q cd ok _ a [] (by simp) (by rfl) (by rfl) (by rfl) (by rfl) (by rfl) ?_
    unfold placeF; rw [if_pos hp]; rfl
  · have hq : (l.parent != ("" : Str)) = true := by simpa using hp
    refine Sx.cons (S1.ite (q := true) (Te.cast (Te.cmp (Ev.methO X₀ (Ev.name (d := .ins C fs) (by rfl)) .ins S.cls.ok Mp hf.1 (Es.cons (Ev.name (d := .str l.name) (by rfl)) Es.nil) par) Ev.constStr Op2.neStr) hq) ?_)
    refine Sx.cons (S1.append (l := []) (r := []) (d := (Fo.inn (.rel (nm l.name)) (.rel (nm l.parent))).v) (Ev.name (by rfl)) (.head _) (Ev.tuple (Es.cons Ev.constStr (Es.cons (Ev.name (d := (X.rel (nm l.name)).v) (by rfl)) (Es.cons (Ev.call (o₁ := []) (o₂ := []) (o₃ := []) (r := [(a, .list [])]) (Ev.glob Gv (by rfl) Hr.nm) (Es.cons (Ev.name (d := o) (by rfl)) (Es.cons (Ev.methO X₀ (Ev.name (d := .ins C fs) (by rfl)) .ins S.cls.ok Mp hf.1 (Es.cons (Ev.name (d := .str l.name) (by rfl)) Es.nil) par) Es.nil)) Hr.kind ((O.fn (n := n) Gv X₀ Hr.at_ (hpar.resolve_left hp)).le (by (first | assumption | exact Nat.le_of_ble_eq_true rfl | exact Nat.add_le_add_left (Nat.le_of_ble_eq_true rfl) _ | exact Nat.le_trans (by assumption) (Nat.le_of_ble_eq_true rfl) | lia | omega)))) Es.nil)))) (by simp) (Sx.nil ?_))
    refine rest2 L q cd ok _ a _ (by simp) (by rfl) (by rfl) (by rfl) (by rfl) (by rfl) ?_
    unfold placeF; rw [if_neg hp]; simp
end
end Mine
end
section
open PySem PySem.W PyProof.Rows PySem.MeetsSeq PySem.SeqAt
set_option maxRecDepth 100000
namespace Mine

noncomputable def noF (xs : List X) (k j : Nat) : Fo := .mul "no" (.meet (xs.getD j (.rel 0)) (xs.getD k (.rel 0)))
noncomputable def pairF (xs : List X) (i : Nat) : List Fo := (List.range i).flatMap fun k => (List.range k).map (noF xs k)
theorem pairF_succ {xs : List X} {i : Nat} : pairF xs (i + 1) = pairF xs i ++ (List.range i).map (noF xs i) := by
  unfold pairF; rw [List.range_succ, List.flatMap_append]; simp
noncomputable def kidX (nm : Str → Int) (Q : List Lab) (x : Str) : List X := (kids Q x).map fun y => .rel (nm y)
noncomputable def partF (nm : Str → Int) (Q : List Lab) (l : Lab) : List Fo :=
  pairF (kidX nm Q l.name) (kidX nm Q l.name).length ++ (if l.hollow && !(kids Q l.name).isEmpty then [.inn (.rel (nm l.name)) (unite (kidX nm Q l.name))] else [])

section
variable {w : World} {H Z : Heap} {n : Nat} {pk : List Addr} {env : Env} {ρ ρc : Names} {o₀ o₁ o₂ o₃ own own₁ own₂ F : Own} {N : Names → Own → Prop} {R : V → Own → Prop} {sts : List Stmt} {st : Stmt} {mg mb : Str → Option Value} {K : Frag}

noncomputable abbrev ICa (C : Addr) (fs : List (Str × V)) (l : Lab) (o : V) (xs : List X) (a : Addr) : Nat → Names → Own → Prop := fun i ρ' own' => ρ' "signatures" = some (.ins C fs) ∧ ρ' "name" = some (.str l.name) ∧ ρ' "opener" = some o ∧ ρ' "children" = some (.lst (xs.map X.v)) ∧ ρ' "found" = some (.raw (.ref a)) ∧ own' = [(a, .list ((pairF xs i).map Fo.v))] ∧ (pairF xs i).length ≤ 10 * i
noncomputable abbrev ICb (C : Addr) (fs : List (Str × V)) (l : Lab) (o : V) (xs : List X) (a : Addr) (i : Nat) : Nat → Names → Own → Prop := fun j ρ' own' => ρ' "signatures" = some (.ins C fs) ∧ ρ' "name" = some (.str l.name) ∧ ρ' "opener" = some o ∧ ρ' "children" = some (.lst (xs.map X.v)) ∧ ρ' "found" = some (.raw (.ref a)) ∧ ρ' "k" = some (.int (i : Int)) ∧ own' = [(a, .list ((pairF xs i ++ (List.range j).map (noF xs i)).map Fo.v))]
theorem childf_fn {f fr fu C CO : Addr} {o : V} {fs fo nums : List (Str × V)} {nm : Str → Int} {E : V} {Q : List Lab} {l : Lab} (Gv : Gl H mg mb) (Bl : Blts mg mb) (X₀ : K.In H) (S : SigC H K mg C) (D : DefAt H f (top 6)) (Hr : Has H mg "relation" (top 4) fr) (Hu : Has H mg "united_implicit" (top 2) fu)
    (hs : SigOk [] (.ins C fs) C fs E Q) (hf : lookV fs "parent" = none ∧ lookV fs "children" = none ∧ lookV fs "is_abstract" = none) (hst : lookV fs "stands" = some (.lst ((names Q).map .str))) (O : OpOk K o CO fo nums nm (names Q)) (hl : l ∈ Q) (hQ : Q.length ≤ 10) :
    Fn w H (n + 20) (.ref f) [] [.ins C fs, o, .str l.name] (.lst ((partF nm Q l).map Fo.v)) [] := by
  obtain ⟨fc, Mc⟩ := S.children
  obtain ⟨fa, Ma⟩ := S.is_abstract
  have hsf : ∀ own, SigOk own (.ins C fs) C fs E Q := fun own => ⟨.inl rfl, hs.ent, hs.hand, (hs.isD.elim (fun h => .inl h) fun ⟨_, _, h⟩ => nomatch h), hs.nd⟩
  have hln : l.name ∈ names Q := List.mem_map_of_mem (f := (·.name)) hl
  have hk10 : (kids Q l.name).length ≤ 10 := Nat.le_trans (List.length_filter_le _ _) (by rw [List.length_map]; (first | assumption | exact Nat.le_of_ble_eq_true rfl | exact Nat.add_le_add_left (Nat.le_of_ble_eq_true rfl) _ | exact Nat.le_trans (by assumption) (Nat.le_of_ble_eq_true rfl) | lia | omega))
  obtain ⟨xs, hxs⟩ : ∃ xs, kidX nm Q l.name = xs := ⟨_, rfl⟩
  have hxl : xs.length = (kids Q l.name).length := by rw [← hxs]; simp [kidX]
  refine Fn.enter (n := n + 19) Gv D P_children_formulas rfl rfl fun L q cd ok => ?_
  refine Sx.cons (S1.tupS (names := ["children", "found"]) (Eg.tuple (Egs.cons (Eg.of (Ev.cast (d' := .lst (xs.map X.v)) (Ev.comp (F := []) (x := "one") (Src.of (Ev.methO X₀ (Ev.name (d := .ins C fs) (by rfl)) .ins S.cls.ok Mc hf.2.1 (Es.cons (Ev.name (d := .str l.name) (by rfl)) Es.nil) ((children_fn (n := n) (l := l) Gv X₀ S Mc.at_ hs hst hf.1 (by (first | assumption | exact Nat.le_of_ble_eq_true rfl | exact Nat.add_le_add_left (Nat.le_of_ble_eq_true rfl) _ | exact Nat.le_trans (by assumption) (Nat.le_of_ble_eq_true rfl) | lia | omega))).le (by (first | assumption | exact Nat.le_of_ble_eq_true rfl | exact Nat.add_le_add_left (Nat.le_of_ble_eq_true rfl) _ | exact Nat.le_trans (by assumption) (Nat.le_of_ble_eq_true rfl) | lia | omega)))) (Itr.lst .lst) (List.nil_sublist _)) (List.nil_sublist _) (p := fun _ => true) (f := relV nm) (ρc := capρ [("opener", o)])
        ⟨CompOk.of (by (first | kernel_rfl | decide +kernel)), by rw [List.length_map]; (first | assumption | exact Nat.le_of_ble_eq_true rfl | exact Nat.add_le_add_left (Nat.le_of_ble_eq_true rfl) _ | exact Nat.le_trans (by assumption) (Nat.le_of_ble_eq_true rfl) | lia | omega), CapL.cap (.cons (by (first | kernel_rfl | decide +kernel)) (by rfl) (by rfl) Fzd.same .nil), .inl rfl, fun C okc d hd => Tst.nil, fun C okc d hd _ => ?_⟩) (by rw [rels_eq, ← hxs]; rfl)) (Egs.cons (Eg.list fun a ha1 ha2 => Egs.nil ⟨by simp, _, rfl, rfl, ?_⟩))))) (st2 (.inl (by rfl)) (.inl (by rfl))))
  · obtain ⟨y, hy, rfl⟩ := List.mem_map.mp hd
    exact Ev.call (o₁ := []) (o₂ := []) (o₃ := []) (r := []) (Ev.glob Gv (by rfl) Hr.nm) (Es.cons (Ev.name (d := o) (by rfl)) (Es.cons (Ev.name (d := .str y) (by rfl)) Es.nil)) Hr.kind ((O.fn (n := n) Gv X₀ Hr.at_ (List.mem_filter.mp hy).1).le (by (first | assumption | exact Nat.le_of_ble_eq_true rfl | exact Nat.add_le_add_left (Nat.le_of_ble_eq_true rfl) _ | exact Nat.le_trans (by assumption) (Nat.le_of_ble_eq_true rfl) | lia | omega)))
  · refine Sx.cons (S1.for (ICa C fs l o xs a)
      (Src.of (Ev.call (o₁ := []) (o₂ := []) (o₃ := []) (r := [(a, .list [])]) (Ev.blt Gv (by rfl) Bl.range.1 Bl.range.2) (Es.cons (Ev.call (o₁ := []) (o₂ := []) (o₃ := []) (r := [(a, .list [])]) (Ev.blt Gv (by rfl) Bl.len.1 Bl.len.2) (Es.cons (Ev.name (d := .lst (xs.map X.v)) (by rfl)) Es.nil) (.builtin _) (Fn.cast (Fn.lenL .lst (by rw [List.length_map]; (first | assumption | exact Nat.le_of_ble_eq_true rfl | exact Nat.add_le_add_left (Nat.le_of_ble_eq_true rfl) _ | exact Nat.le_trans (by assumption) (Nat.le_of_ble_eq_true rfl) | lia | omega))) (by rw [List.length_map]))) Es.nil) (.type _) Fn.range) (Itr.rng (k := xs.length) (by (first | assumption | exact Nat.le_of_ble_eq_true rfl | exact Nat.add_le_add_left (Nat.le_of_ble_eq_true rfl) _ | exact Nat.le_trans (by assumption) (Nat.le_of_ble_eq_true rfl) | lia | omega))) (List.nil_sublist _)) (.inl (by rfl)) ⟨by rfl, by rfl, by rfl, by rfl, by rfl, rfl, by simp [pairF]⟩ ?_ ?_)
    · rintro i d hd ρ' own' ⟨g1, g2, g3, g4, g5, rfl, hz⟩
      obtain ⟨hi, rfl⟩ := upto_at hd
      refine Sx.cons (S1.for (ICb C fs l o xs a i)
        (Src.of (Ev.call (o₁ := []) (o₂ := []) (o₃ := []) (r := [(a, .list ((pairF xs i).map Fo.v))]) (Ev.blt Gv (by rfl) Bl.range.1 Bl.range.2) (Es.cons (Ev.name (d := .int (i : Int)) (by rfl)) Es.nil) (.type _) Fn.range) (Itr.rng (k := i) (by (first | assumption | exact Nat.le_of_ble_eq_true rfl | exact Nat.add_le_add_left (Nat.le_of_ble_eq_true rfl) _ | exact Nat.le_trans (by assumption) (Nat.le_of_ble_eq_true rfl) | lia | omega))) (List.nil_sublist _)) (.inl (by rfl)) ⟨g1, g2, g3, g4, g5, by rfl, by simp⟩ ?_ ?_)
      · rintro j d hd ρ'' own' ⟨k1, k2, k3, k4, k5, k6, rfl⟩
        obtain ⟨hj, rfl⟩ := upto_at hd
        have ej : (xs.map X.v)[j]? = some (xs.getD j (.rel 0)).v := by rw [List.getElem?_map, List.getD_eq_getElem?_getD, List.getElem?_eq_getElem (by (first | assumption | exact Nat.le_of_ble_eq_true rfl | exact Nat.add_le_add_left (Nat.le_of_ble_eq_true rfl) _ | exact Nat.le_trans (by assumption) (Nat.le_of_ble_eq_true rfl) | lia | omega))]; rfl
        have ei : (xs.map X.v)[i]? = some (xs.getD i (.rel 0)).v := by rw [List.getElem?_map, List.getD_eq_getElem?_getD, List.getElem?_eq_getElem (by (first | assumption | exact Nat.le_of_ble_eq_true rfl | exact Nat.add_le_add_left (Nat.le_of_ble_eq_true rfl) _ | exact Nat.le_trans (by assumption) (Nat.le_of_ble_eq_true rfl) | lia | omega))]; rfl
        refine Sx.cons (S1.append (l := []) (r := []) (d := (noF xs i j).v) (Ev.name k5) (.head _) (Ev.tuple (Es.cons Ev.constStr (Es.cons (Ev.tuple (Es.cons Ev.constStr (Es.cons (Ev.sub (Ev.name k4) (Ev.name (d := .int (j : Int)) (by rfl)) (Op2.subLst .lst (by (first | assumption | exact Nat.le_of_ble_eq_true rfl | exact Nat.add_le_add_left (Nat.le_of_ble_eq_true rfl) _ | exact Nat.le_trans (by assumption) (Nat.le_of_ble_eq_true rfl) | lia | omega)) ej)) (Es.cons (Ev.sub (Ev.name k4) (Ev.name k6) (Op2.subLst .lst (by (first | assumption | exact Nat.le_of_ble_eq_true rfl | exact Nat.add_le_add_left (Nat.le_of_ble_eq_true rfl) _ | exact Nat.le_trans (by assumption) (Nat.le_of_ble_eq_true rfl) | lia | omega)) ei)) Es.nil)))) Es.nil))) (by simp only [List.length_map, List.length_append, List.length_range]; (first | assumption | exact Nat.le_of_ble_eq_true rfl | exact Nat.add_le_add_left (Nat.le_of_ble_eq_true rfl) _ | exact Nat.le_trans (by assumption) (Nat.le_of_ble_eq_true rfl) | lia | omega)) (Sx.nil ⟨k1, k2, k3, k4, k5, k6, ?_⟩))
        rw [List.range_succ]; simp
      · rintro ρ'' own' ⟨k1, k2, k3, k4, k5, k6, rfl⟩
        have e4 : (upto i).length = i := by simp [upto]
        rw [e4]
        refine Sx.nil ⟨k1, k2, k3, k4, k5, by rw [pairF_succ], ?_⟩
        rw [pairF_succ]; simp only [List.length_map, List.length_append, List.length_range]; (first | assumption | exact Nat.le_of_ble_eq_true rfl | exact Nat.add_le_add_left (Nat.le_of_ble_eq_true rfl) _ | exact Nat.le_trans (by assumption) (Nat.le_of_ble_eq_true rfl) | lia | omega)
    · rintro ρ' own' ⟨g1, g2, g3, g4, g5, rfl, hz⟩
      have e4 : (upto xs.length).length = xs.length := by simp [upto]
      rw [e4] at hz ⊢
      refine Sx.cons (S1.ite (q := l.hollow && !(kids Q l.name).isEmpty) (Te.cast (Ta.te (Ta.and2 (Te.plain (Ev.methO X₀ (Ev.name g1) .ins S.cls.ok Ma hf.2.2 (Es.cons (Ev.name g2) Es.nil) ((abstract_fn (n := n) Gv X₀ S Ma.at_ (hsf _) hl).le (by (first | assumption | exact Nat.le_of_ble_eq_true rfl | exact Nat.add_le_add_left (Nat.le_of_ble_eq_true rfl) _ | exact Nat.le_trans (by assumption) (Nat.le_of_ble_eq_true rfl) | lia | omega)))) Tru.bool) fun _ => Te.cmp (Ev.call (o₁ := []) (o₂ := []) (o₃ := []) (r := [(a, .list ((pairF xs xs.length).map Fo.v))]) (Ev.blt Gv (by rfl) Bl.len.1 Bl.len.2) (Es.cons (Ev.name g4) Es.nil) (.builtin _) (Fn.cast (Fn.lenL .lst (by rw [List.length_map]; (first | assumption | exact Nat.le_of_ble_eq_true rfl | exact Nat.add_le_add_left (Nat.le_of_ble_eq_true rfl) _ | exact Nat.le_trans (by assumption) (Nat.le_of_ble_eq_true rfl) | lia | omega))) (by rw [List.length_map]))) Ev.constInt Op2.gtInt)) ?_) ?_)
      · rw [hxl]
        congr 1
        cases kids Q l.name with
        | nil => rfl
        | cons x ys => simp only [List.length_cons, List.isEmpty_cons, Bool.not_false, decide_eq_true_eq]; (first | assumption | exact Nat.le_of_ble_eq_true rfl | exact Nat.add_le_add_left (Nat.le_of_ble_eq_true rfl) _ | exact Nat.le_trans (by assumption) (Nat.le_of_ble_eq_true rfl) | lia | omega)
      · cases hb : l.hollow && !(kids Q l.name).isEmpty with
        | false =>
          refine Sx.nil (Sx.cons (S1.retL (Ev.name g5) (by simp) ⟨?_, [], rfl⟩))
          unfold partF; rw [hb, hxs]; simp
        | true =>
          have h0 : 0 < xs.length := by
            rw [hxl]
            cases hk : kids Q l.name with
            | nil => rw [hk] at hb; simp at hb
            | cons x ys => simp
          refine Sx.cons (S1.append (l := []) (r := []) (d := (Fo.inn (.rel (nm l.name)) (unite xs)).v) (Ev.name g5) (.head _) (Ev.tuple (Es.cons Ev.constStr (Es.cons (Ev.call (o₁ := []) (o₂ := []) (o₃ := []) (r := [(a, .list ((pairF xs xs.length).map Fo.v))]) (Ev.glob Gv (by rfl) Hr.nm) (Es.cons (Ev.name g3) (Es.cons (Ev.name g2) Es.nil)) Hr.kind ((O.fn (n := n) Gv X₀ Hr.at_ hln).le (by (first | assumption | exact Nat.le_of_ble_eq_true rfl | exact Nat.add_le_add_left (Nat.le_of_ble_eq_true rfl) _ | exact Nat.le_trans (by assumption) (Nat.le_of_ble_eq_true rfl) | lia | omega)))) (Es.cons (Ev.call (o₁ := []) (o₂ := []) (o₃ := []) (r := [(a, .list ((pairF xs xs.length).map Fo.v))]) (Ev.glob Gv (by rfl) Hu.nm) (Es.cons (Ev.name g4) Es.nil) Hu.kind ((united_fn (n := n) Gv Bl Hu xs.length xs rfl h0 (by (first | assumption | exact Nat.le_of_ble_eq_true rfl | exact Nat.add_le_add_left (Nat.le_of_ble_eq_true rfl) _ | exact Nat.le_trans (by assumption) (Nat.le_of_ble_eq_true rfl) | lia | omega))).le (by (first | assumption | exact Nat.le_of_ble_eq_true rfl | exact Nat.add_le_add_left (Nat.le_of_ble_eq_true rfl) _ | exact Nat.le_trans (by assumption) (Nat.le_of_ble_eq_true rfl) | lia | omega)))) Es.nil)))) (by rw [List.length_map]; (first | assumption | exact Nat.le_of_ble_eq_true rfl | exact Nat.add_le_add_left (Nat.le_of_ble_eq_true rfl) _ | exact Nat.le_trans (by assumption) (Nat.le_of_ble_eq_true rfl) | lia | omega)) (Sx.nil ?_))
          refine Sx.cons (S1.retL (Ev.name g5) (by simp) ⟨?_, [], rfl⟩)
          unfold partF; rw [hb, hxs]; simp
end
end Mine
end
section
open PySem PySem.W PyProof.Rows PySem.MeetsSeq PySem.SeqAt
set_option maxRecDepth 100000
namespace Mine

theorem mem_sUni {a b : List Int} (h : ∀ z ∈ a ++ b, 0 ≤ z ∧ z < 4) {z : Int} : z ∈ sUni a b ↔ z ∈ a ∨ z ∈ b := by
  unfold sUni
  rw [(sortK_perm (once4 h)).mem_iff, mem_once]
  simp
theorem mem_sMeet {a b : List Int} {z : Int} : z ∈ sMeet a b ↔ z ∈ a ∧ z ∈ b := by
  unfold sMeet
  rw [List.mem_filter, List.contains_iff_mem, mem_once]
  simp
theorem sMinus_nil {a b : List Int} : (sMinus a b).isEmpty = true ↔ ∀ z ∈ a, z ∈ b := by
  unfold sMinus
  rw [List.isEmpty_iff, List.filter_eq_nil_iff]
  constructor
  · intro h z hz
    have := h z hz
    have h' : (once [] b).contains z = true := by simpa using this
    rw [List.contains_iff_mem, mem_once] at h'
    simpa using h'
  · intro h z hz
    have h' : (once [] b).contains z = true := by
      rw [List.contains_iff_mem, mem_once]; exact .inr (h z hz)
    rw [h']; simp
theorem unite_ok {inst : List (List Int)} (hi : InstOk inst) (k : Nat) (xs : List X) (hk : xs.length = k) (h0 : 0 < k) (hx : ∀ x ∈ xs, x.ok inst.length) : (unite xs).ok inst.length ∧ ∀ z, z ∈ sem inst (unite xs) ↔ ∃ x ∈ xs, z ∈ sem inst x := by
  refine unite_ind (p := fun xs a => (∀ x ∈ xs, x.ok inst.length) → a.ok inst.length ∧ ∀ z, z ∈ sem inst a ↔ ∃ x ∈ xs, z ∈ sem inst x) ?_ ?_ k xs (Nat.le_of_eq hk) (hk ▸ h0) hx
  · exact fun x hx => ⟨hx x (.head _), fun z => by simp only [List.mem_singleton, exists_eq_left]⟩
  · intro xs ys a b _ _ ha hb hx
    obtain ⟨a1, a2⟩ := ha fun x h => hx x (List.mem_append_left _ h)
    obtain ⟨b1, b2⟩ := hb fun x h => hx x (List.mem_append_right _ h)
    refine ⟨⟨a1, b1⟩, fun z => ?_⟩
    show z ∈ sUni _ _ ↔ _
    simp only [mem_sUni (fun z hz => (List.mem_append.mp hz).elim ((sem_ok hi a1).2 z) ((sem_ok hi b1).2 z)), a2, b2, List.mem_append, or_and_right, exists_or]
end Mine
end
section
open PySem PySem.W PyProof.Rows PySem.MeetsSeq PySem.SeqAt
set_option maxRecDepth 100000
namespace Mine

/-- the instance holds the world -/
structure Fits (P : List Lab) (hs : HL) (inst : List (List Int)) (nm : Str → Int) : Prop where
  iok : InstOk inst
  lo : ∀ x ∈ names P, 0 ≤ nm x ∧ (nm x).toNat < inst.length
  perm : ∀ x ∈ names P, (inst.getD (nm x).toNat []).Perm ((xsOf hs x).getD [])

theorem Fits.rel {P : List Lab} {hs : HL} {inst : List (List Int)} {nm : Str → Int} (F : Fits P hs inst nm) {x : Str} (hx : x ∈ names P) : (X.rel (nm x)).ok inst.length ∧ (∀ z, z ∈ sem inst (.rel (nm x)) ↔ z ∈ (xsOf hs x).getD []) ∧ (sem inst (.rel (nm x))).length = ((xsOf hs x).getD []).length :=
  ⟨F.lo x hx, fun z => (F.perm x hx).mem_iff, (F.perm x hx).length_eq⟩

theorem mark_law (k : Nat) (m : Str) (h : m ∈ marks) : (if isSome1 m then manyOf m k else true) = (if m == ("" : Str) then true else if m == ("one" : Str) then k == 1 else if m == ("lone" : Str) then decide (k < 2) else decide (0 < k)) := by
  rcases List.mem_cons.mp h with rfl | h
  · rfl
  rcases List.mem_cons.mp h with rfl | h
  · rfl
  rcases List.mem_cons.mp h with rfl | h
  · rfl
  rw [List.mem_singleton.mp h]; rfl

theorem place_law {P : List Lab} {hs : HL} {inst : List (List Int)} {nm : Str → Int} {l : Lab} (F : Fits P hs inst nm) (hW : Wf P) (hl : l ∈ P) : (placeF nm l).all (Fo.sem inst) = placedS P hs l ∧ ∀ φ ∈ placeF nm l, φ.ok inst.length := by
  have hln : l.name ∈ names P := List.mem_map_of_mem (f := (·.name)) hl
  obtain ⟨r1, r2, r3⟩ := F.rel hln
  have hpar : l.parent = ("" : Str) ∨ l.parent ∈ names P := by
    rcases hW.parent l hl with e | ⟨k, hk, e, _⟩
    · exact .inl e
    · exact .inr (e ▸ List.mem_map_of_mem (f := (·.name)) hk)
  have hparts : ∀ y ∈ l.parts, y ∈ names P := fun y hy => by
    obtain ⟨k, hk, e, _⟩ := hW.parts l hl y hy
    exact e ▸ List.mem_map_of_mem (f := (·.name)) hk
  have hu : l.parts ≠ [] → (unite (l.parts.map fun y => X.rel (nm y))).ok inst.length ∧ ∀ z, z ∈ sem inst (unite (l.parts.map fun y => X.rel (nm y))) ↔ ∃ y ∈ l.parts, z ∈ (xsOf hs y).getD [] := fun h => by
    have := unite_ok F.iok _ (l.parts.map fun y => X.rel (nm y)) rfl (by rw [List.length_map]; exact List.length_pos_iff.mpr h) (fun x hx => by
      obtain ⟨y, hy, rfl⟩ := List.mem_map.mp hx
      exact (F.rel (hparts y hy)).1)
    refine ⟨this.1, fun z => (this.2 z).trans ⟨?_, ?_⟩⟩
    · rintro ⟨x, hx, hz⟩
      obtain ⟨y, hy, rfl⟩ := List.mem_map.mp hx
      exact ⟨y, hy, ((F.rel (hparts y hy)).2.1 z).mp hz⟩
    · rintro ⟨y, hy, hz⟩
      exact ⟨_, List.mem_map_of_mem hy, ((F.rel (hparts y hy)).2.1 z).mpr hz⟩
  have hm := hW.mark l hl
  constructor
  · unfold placeF placedS
    rw [List.all_append, List.all_append]
    congr 1
    · rw [Bool.eq_iff_iff, Bool.and_eq_true, Bool.not_eq_true', List.any_eq_false]
      have h1 : (if l.parent = ("" : Str) then [] else [Fo.inn (.rel (nm l.name)) (.rel (nm l.parent))]).all (Fo.sem inst) = true ↔ ∀ z ∈ (xsOf hs l.name).getD [], l.parent = ("" : Str) ∨ z ∈ (xsOf hs l.parent).getD [] := by
        by_cases e : l.parent = ("" : Str)
        · rw [if_pos e]; simp [e]
        · rw [if_neg e]
          have q := F.rel (hpar.resolve_left e)
          simp only [List.all_cons, List.all_nil, Bool.and_true]
          show (sMinus _ _).isEmpty = true ↔ _
          rw [sMinus_nil]
          constructor
          · intro h z hz; exact .inr ((q.2.1 z).mp (h z ((r2 z).mpr hz)))
          · intro h z hz; exact (q.2.1 z).mpr ((h z ((r2 z).mp hz)).resolve_left e)
      have h2 : (if l.parts = [] then [] else [Fo.inn (.rel (nm l.name)) (unite (l.parts.map fun y => .rel (nm y)))]).all (Fo.sem inst) = true ↔ ∀ z ∈ (xsOf hs l.name).getD [], l.parts = [] ∨ ∃ y ∈ l.parts, z ∈ (xsOf hs y).getD [] := by
        by_cases e : l.parts = []
        · rw [if_pos e]; simp [e]
        · rw [if_neg e]
          have q := hu e
          simp only [List.all_cons, List.all_nil, Bool.and_true]
          show (sMinus _ _).isEmpty = true ↔ _
          rw [sMinus_nil]
          constructor
          · intro h z hz; exact .inr ((q.2 z).mp (h z ((r2 z).mpr hz)))
          · intro h z hz; exact (q.2 z).mpr ((h z ((r2 z).mp hz)).resolve_left e)
      rw [h1, h2]
      have h3 : ∀ z, badAt P hs l z = true ↔ ¬ ((l.parent = ("" : Str) ∨ z ∈ (xsOf hs l.parent).getD []) ∧ (l.parts = [] ∨ ∃ y ∈ l.parts, z ∈ (xsOf hs y).getD [])) := by
        intro z
        have a1 : (l.parts.any fun y => ((xsOf hs y).getD []).contains z) = true ↔ ∃ y ∈ l.parts, z ∈ (xsOf hs y).getD [] := by simp [List.any_eq_true]
        have a2 : l.parts.isEmpty = true ↔ l.parts = [] := List.isEmpty_iff
        have a3 : ((xsOf hs l.parent).getD []).contains z = true ↔ z ∈ (xsOf hs l.parent).getD [] := List.contains_iff_mem
        unfold badAt
        rw [← a1, ← a2, ← a3]
        generalize (l.parts.any fun y => ((xsOf hs y).getD []).contains z) = A
        generalize l.parts.isEmpty = B
        generalize ((xsOf hs l.parent).getD []).contains z = D
        by_cases e : l.parent = ("" : Str)
        · have : (l.parent != ("" : Str)) = false := by rw [e]; (first | kernel_rfl | decide +kernel)
          rw [this]; cases A <;> cases B <;> cases D <;> simp [e]
        · have : (l.parent != ("" : Str)) = true := by simpa using e
          rw [this]; cases A <;> cases B <;> cases D <;> simp [e]
      constructor
      · rintro ⟨a, b⟩ z hz hb
        exact (h3 z).mp hb ⟨a z hz, b z hz⟩
      · intro h
        exact ⟨fun z hz => Classical.byContradiction fun hc => h z hz ((h3 z).mpr fun k => hc k.1), fun z hz => Classical.byContradiction fun hc => h z hz ((h3 z).mpr fun k => hc k.2)⟩
    · rw [← r3, ← mark_law _ _ hm]
      cases hb : isSome1 l.mark with
      | false => rfl
      | true =>
        show (manyOf l.mark _ && true) = _
        rw [Bool.and_true]; rfl
  · intro φ hφ
    unfold placeF at hφ
    rcases List.mem_append.mp hφ with h | h
    · rcases List.mem_append.mp h with h | h
      · by_cases e : l.parent = ("" : Str)
        · rw [if_pos e] at h; cases h
        · rw [if_neg e] at h
          rw [List.mem_singleton.mp h]
          exact ⟨r1, (F.rel (hpar.resolve_left e)).1⟩
      · by_cases e : l.parts = []
        · rw [if_pos e] at h; cases h
        · rw [if_neg e] at h
          rw [List.mem_singleton.mp h]
          exact ⟨r1, (hu e).1⟩
    · cases hb : isSome1 l.mark with
      | false => rw [hb] at h; cases h
      | true =>
        rw [hb] at h
        rw [List.mem_singleton.mp h]
        refine ⟨r1, ?_⟩
        have := List.contains_iff_mem.mp hb
        exact .tail _ this
end Mine
end
section
open PySem PySem.W PyProof.Rows PySem.MeetsSeq PySem.SeqAt
set_option maxRecDepth 100000
namespace Mine

theorem pairs_count {α : Type} {p : α → Bool} : ∀ {l : List α}, (l.filter p).length ≤ 1 ↔ l.Pairwise fun a b => ¬ (p a = true ∧ p b = true)
  | [] => by simp
  | a :: l => by
    rw [List.pairwise_cons, List.filter_cons, ← pairs_count (l := l)]
    cases h : p a with
    | false => simp
    | true =>
      simp only [if_true, List.length_cons, true_and]
      constructor
      · intro h1
        have h0 : l.filter p = [] := List.eq_nil_of_length_eq_zero (by (first | assumption | exact Nat.le_of_ble_eq_true rfl | exact Nat.add_le_add_left (Nat.le_of_ble_eq_true rfl) _ | exact Nat.le_trans (by assumption) (Nat.le_of_ble_eq_true rfl) | lia | omega))
        rw [List.filter_eq_nil_iff] at h0
        exact ⟨fun b hb => h0 b hb, by rw [List.filter_eq_nil_iff.mpr h0]; simp⟩
      · rintro ⟨h1, _⟩
        rw [List.filter_eq_nil_iff.mpr h1]; simp
theorem pairF_all {inst : List (List Int)} {xs : List X} {i : Nat} : (pairF xs i).all (Fo.sem inst) = true ↔ ∀ k < i, ∀ j < k, (sem inst (.meet (xs.getD j (.rel 0)) (xs.getD k (.rel 0)))).length = 0 := by
  unfold pairF
  rw [List.all_eq_true]
  constructor
  · intro h k hk j hj
    have := h (noF xs k j) (List.mem_flatMap.mpr ⟨k, List.mem_range.mpr hk, List.mem_map.mpr ⟨j, List.mem_range.mpr hj, rfl⟩⟩)
    exact of_decide_eq_true this
  · intro h φ hφ
    obtain ⟨k, hk, h2⟩ := List.mem_flatMap.mp hφ
    obtain ⟨j, hj, rfl⟩ := List.mem_map.mp h2
    exact decide_eq_true (h k (List.mem_range.mp hk) j (List.mem_range.mp hj))
theorem kids_below {Q : List Lab} {x : Str} (hn : (names Q).Nodup) : kids Q x = below Q x := by
  unfold kids below names
  rw [List.filter_map]
  congr 1
  apply List.filter_congr
  intro l hl
  show (parOf Q l.name == x) = _
  unfold parOf
  rw [findL_mem hn hl]
theorem below_perm {P Q : List Lab} {x : Str} (h : Q.Perm P) : (below Q x).Perm (below P x) := (h.filter _).map _
end Mine
end
section
open PySem PySem.W PyProof.Rows PySem.MeetsSeq PySem.SeqAt
set_option maxRecDepth 100000
namespace Mine

theorem pairwise_at {α : Type} {R : α → α → Prop} {d : α} : ∀ {l : List α}, l.Pairwise R ↔ ∀ k < l.length, ∀ j < k, R (l.getD j d) (l.getD k d) := by
  intro l
  rw [List.pairwise_iff_getElem]
  constructor
  · intro h k hk j hj
    have := h j k (by (first | assumption | exact Nat.le_of_ble_eq_true rfl | exact Nat.add_le_add_left (Nat.le_of_ble_eq_true rfl) _ | exact Nat.le_trans (by assumption) (Nat.le_of_ble_eq_true rfl) | lia | omega)) hk hj
    rw [List.getD_eq_getElem?_getD, List.getD_eq_getElem?_getD, List.getElem?_eq_getElem hk, List.getElem?_eq_getElem (by (first | assumption | exact Nat.le_of_ble_eq_true rfl | exact Nat.add_le_add_left (Nat.le_of_ble_eq_true rfl) _ | exact Nat.le_trans (by assumption) (Nat.le_of_ble_eq_true rfl) | lia | omega))]
    exact this
  · intro h i j hi hj hij
    have := h j hj i hij
    rw [List.getD_eq_getElem?_getD, List.getD_eq_getElem?_getD, List.getElem?_eq_getElem hi, List.getElem?_eq_getElem hj] at this
    exact this

theorem meet_zero {inst : List (List Int)} {a b : X} : (sem inst (.meet a b)).length = 0 ↔ ∀ z, ¬ (z ∈ sem inst a ∧ z ∈ sem inst b) := by
  rw [List.length_eq_zero_iff, List.eq_nil_iff_forall_not_mem]
  show (∀ z, z ∉ sMeet _ _) ↔ _
  simp only [mem_sMeet]

theorem max_step {a b x y : Nat} (ha : a ≤ 1 + 5 * x) (hb : b ≤ 1 + 5 * y) : max a b + 5 ≤ 1 + 5 * (x + y + 1) := by
  rcases Nat.le_total a b with h | h
  · rw [Nat.max_eq_right h]; clear h ha; lia
  · rw [Nat.max_eq_left h]; clear h hb; lia
theorem unite_h (k : Nat) (xs : List X) (hk : xs.length = k) (h0 : 0 < k) (hx : ∀ x ∈ xs, x.h = 1) : (unite xs).h ≤ 1 + 5 * (k - 1) := by
  have := unite_ind (p := fun xs a => (∀ x ∈ xs, x.h = 1) → ∃ k, xs.length = k + 1 ∧ a.h ≤ 1 + 5 * k) ?_ ?_ k xs (Nat.le_of_eq hk) (hk ▸ h0) hx
  · obtain ⟨j, e, g⟩ := this
    rw [← hk, e]; exact g
  · exact fun x hx => ⟨0, rfl, Nat.le_of_eq (hx x (.head _))⟩
  · intro xs ys a b _ _ ha hb hx
    obtain ⟨x, a1, a2⟩ := ha fun x h => hx x (List.mem_append_left _ h)
    obtain ⟨y, b1, b2⟩ := hb fun x h => hx x (List.mem_append_right _ h)
    refine ⟨x + y + 1, ?_, max_step a2 b2⟩
    rw [List.length_append, a1, b1]; exact Nat.add_right_comm x 1 (y + 1)

theorem place_h {nm : Str → Int} {l : Lab} (hz : l.parts.length ≤ 10) : ∀ φ ∈ placeF nm l, φ.h ≤ 60 := by
  intro φ hφ
  unfold placeF at hφ
  rcases List.mem_append.mp hφ with h | h
  · rcases List.mem_append.mp h with h | h
    · by_cases e : l.parent = ("" : Str)
      · rw [if_pos e] at h; cases h
      · rw [if_neg e] at h
        rw [List.mem_singleton.mp h]
        show max _ _ + 4 ≤ _
        simp [X.h]
    · by_cases e : l.parts = []
      · rw [if_pos e] at h; cases h
      · rw [if_neg e] at h
        rw [List.mem_singleton.mp h]
        have := unite_h l.parts.length (l.parts.map fun y => X.rel (nm y)) (by simp) (List.length_pos_iff.mpr e) (fun x hx => by obtain ⟨y, _, rfl⟩ := List.mem_map.mp hx; rfl)
        show max 1 _ + 4 ≤ _
        (first | assumption | exact Nat.le_of_ble_eq_true rfl | exact Nat.add_le_add_left (Nat.le_of_ble_eq_true rfl) _ | exact Nat.le_trans (by assumption) (Nat.le_of_ble_eq_true rfl) | lia | omega)
  · cases hb : isSome1 l.mark with
    | false => rw [hb] at h; cases h
    | true =>
      rw [hb] at h
      rw [List.mem_singleton.mp h]
      show 1 + 4 ≤ _
      (first | assumption | exact Nat.le_of_ble_eq_true rfl | exact Nat.add_le_add_left (Nat.le_of_ble_eq_true rfl) _ | exact Nat.le_trans (by assumption) (Nat.le_of_ble_eq_true rfl) | lia | omega)

theorem place_len {nm : Str → Int} {l : Lab} (hm : l.mark ∈ marks) : (placeF nm l).length = (if l.parent != ("" : Str) then 1 else 0) + (if !l.parts.isEmpty then 1 else 0) + (if l.mark != ("" : Str) then 1 else 0) := by
  have e3 : isSome1 l.mark = (l.mark != ("" : Str)) := by
    have : ∀ m ∈ marks, isSome1 m = (m != ("" : Str)) := by (first | kernel_rfl | decide +kernel)
    exact this _ hm
  unfold placeF
  rw [List.length_append, List.length_append, e3]
  congr 1
  · congr 1
    · by_cases e : l.parent = ("" : Str)
      · have : (l.parent != ("" : Str)) = false := by rw [e]; (first | kernel_rfl | decide +kernel)
        rw [if_pos e, this]; rfl
      · have : (l.parent != ("" : Str)) = true := by simpa using e
        rw [if_neg e, this]; rfl
    · cases l.parts <;> simp
  · cases l.mark != ("" : Str) <;> rfl

theorem pairF_len {xs : List X} : ∀ {i : Nat}, (pairF xs i).length = i * (i - 1) / 2
  | 0 => rfl
  | i + 1 => by
    rw [pairF_succ, List.length_append, pairF_len, List.length_map, List.length_range]
    cases i with
    | zero => rfl
    | succ j =>
      have e : (j + 1 + 1) * (j + 1 + 1 - 1) = (j + 1) * (j + 1 - 1) + 2 * (j + 1) := by
        simp only [Nat.add_sub_cancel]
        rw [Nat.add_mul, Nat.mul_comm (j + 1) (j + 1), Nat.mul_add (j + 1) j 1]
        (first | assumption | exact Nat.le_of_ble_eq_true rfl | exact Nat.add_le_add_left (Nat.le_of_ble_eq_true rfl) _ | exact Nat.le_trans (by assumption) (Nat.le_of_ble_eq_true rfl) | lia | omega)
      rw [e, Nat.add_mul_div_left _ _ (by decide)]

/-- what one atom of a world says of those that extend -/
theorem part_law {P Q : List Lab} {hs : HL} {inst : List (List Int)} {nm : Str → Int} {l : Lab} (F : Fits P hs inst nm) (hW : Wf P) (hQ : Q.Perm P) (ho : HsOk P hs (fun _ => 10)) (hl : l ∈ P) : (partF nm Q l).all (Fo.sem inst) = partedS P hs l ∧ ∀ φ ∈ partF nm Q l, φ.ok inst.length ∧ (Q.length ≤ 10 → φ.h ≤ 60) := by
  have hnQ : (names Q).Nodup := (hQ.map (·.name)).nodup_iff.mpr hW.nodup
  have hkb : kids Q l.name = below Q l.name := kids_below hnQ
  have hperm : (kids Q l.name).Perm (below P l.name) := hkb ▸ below_perm hQ
  have hkm : ∀ y ∈ kids Q l.name, y ∈ names P := fun y hy => by
    obtain ⟨k, hk, e, _⟩ := mem_below.mp (hperm.mem_iff.mp hy)
    exact e ▸ List.mem_map_of_mem hk
  have hln : l.name ∈ names P := List.mem_map_of_mem (f := (·.name)) hl
  obtain ⟨r1, r2, r3⟩ := F.rel hln
  have hlen : (kidX nm Q l.name).length = (kids Q l.name).length := by simp [kidX]
  have hxok : ∀ x ∈ kidX nm Q l.name, x.ok inst.length := fun x hx => by
    obtain ⟨y, hy, rfl⟩ := List.mem_map.mp hx
    exact (F.rel (hkm y hy)).1
  have hin : ∀ {y z}, z ∈ (xsOf hs y).getD [] → 0 ≤ z ∧ z < 4 := fun {y z} hz => by
    cases e : xsOf hs y with
    | none => rw [e] at hz; cases hz
    | some xs =>
      obtain ⟨h, hh, _, e2⟩ := xsOf_mem e
      rw [e] at hz
      exact (ho.vals h hh).2 z (e2 ▸ hz)
  have pairs : (pairF (kidX nm Q l.name) (kidX nm Q l.name).length).all (Fo.sem inst) = true ↔ ∀ t : Int, ((kids Q l.name).filter fun y => ((xsOf hs y).getD []).contains t).length ≤ 1 := by
    rw [pairF_all, ← pairwise_at (l := kidX nm Q l.name) (d := .rel 0) (R := fun a b => (sem inst (.meet a b)).length = 0)]
    unfold kidX
    rw [List.pairwise_map]
    have e : ∀ (t : Int), ((kids Q l.name).filter fun y => ((xsOf hs y).getD []).contains t).length ≤ 1 ↔ (kids Q l.name).Pairwise fun a b => ¬ (((xsOf hs a).getD []).contains t = true ∧ ((xsOf hs b).getD []).contains t = true) := fun t => pairs_count
    simp only [e]
    constructor
    · intro h t
      refine h.imp_of_mem ?_
      intro a b ha hb hab hc
      rw [meet_zero] at hab
      exact hab t ⟨((F.rel (hkm a ha)).2.1 t).mpr (List.contains_iff_mem.mp hc.1), ((F.rel (hkm b hb)).2.1 t).mpr (List.contains_iff_mem.mp hc.2)⟩
    · intro h
      have h' : (kids Q l.name).Pairwise fun a b => ∀ t : Int, ¬ (((xsOf hs a).getD []).contains t = true ∧ ((xsOf hs b).getD []).contains t = true) := by
        rw [List.pairwise_iff_getElem]
        intro i j hi hj hij t
        exact List.pairwise_iff_getElem.mp (h t) i j hi hj hij
      refine h'.imp_of_mem ?_
      intro a b ha hb hab
      rw [meet_zero]
      rintro z ⟨h1, h2⟩
      exact hab z ⟨List.contains_iff_mem.mpr (((F.rel (hkm a ha)).2.1 z).mp h1), List.contains_iff_mem.mpr (((F.rel (hkm b hb)).2.1 z).mp h2)⟩
  have times : ∀ t, ((kids Q l.name).filter fun y => ((xsOf hs y).getD []).contains t).length = timesOf P hs l.name t := fun t => (hperm.filter _).length_eq
  have tz : ∀ t, timesOf P hs l.name t = 0 ↔ ∀ y ∈ below P l.name, t ∉ (xsOf hs y).getD [] := fun t => by
    unfold timesOf
    rw [List.length_eq_zero_iff, List.filter_eq_nil_iff]
    simp only [List.contains_iff_mem]
  have hu : kids Q l.name ≠ [] → (unite (kidX nm Q l.name)).ok inst.length ∧ ∀ z, z ∈ sem inst (unite (kidX nm Q l.name)) ↔ ∃ y ∈ below P l.name, z ∈ (xsOf hs y).getD [] := fun h => by
    have := unite_ok F.iok _ (kidX nm Q l.name) rfl (by rw [hlen]; exact List.length_pos_iff.mpr h) hxok
    refine ⟨this.1, fun z => (this.2 z).trans ⟨?_, ?_⟩⟩
    · rintro ⟨x, hx, hz⟩
      obtain ⟨y, hy, rfl⟩ := List.mem_map.mp hx
      exact ⟨y, hperm.mem_iff.mp hy, ((F.rel (hkm y hy)).2.1 z).mp hz⟩
    · rintro ⟨y, hy, hz⟩
      have hy' := hperm.mem_iff.mpr hy
      exact ⟨_, List.mem_map_of_mem hy', ((F.rel (hkm y hy')).2.1 z).mpr hz⟩
  have hemp : (kids Q l.name).isEmpty = (below P l.name).isEmpty := by
    rw [Bool.eq_iff_iff, List.isEmpty_iff, List.isEmpty_iff]
    constructor
    · intro h; rw [h] at hperm; exact hperm.nil_eq.symm
    · intro h; rw [h] at hperm; exact hperm.eq_nil
  constructor
  · unfold partF partedS
    rw [List.all_append, Bool.eq_iff_iff, Bool.and_eq_true, pairs, Bool.not_eq_true', List.any_eq_false]
    have second : ((if l.hollow && !(kids Q l.name).isEmpty then [Fo.inn (.rel (nm l.name)) (unite (kidX nm Q l.name))] else []).all (Fo.sem inst)) = true ↔ (l.hollow = true → (below P l.name).isEmpty = false → ∀ z ∈ (xsOf hs l.name).getD [], timesOf P hs l.name z ≠ 0) := by
      rw [hemp]
      cases h1 : l.hollow with
      | false => simp
      | true =>
        cases h2 : (below P l.name).isEmpty with
        | true => simp
        | false =>
          have hk : kids Q l.name ≠ [] := fun e => by rw [← hemp, e] at h2; cases h2
          obtain ⟨_, u2⟩ := hu hk
          simp only [Bool.not_false, Bool.and_true, if_true, List.all_cons, List.all_nil]
          show (sMinus _ _).isEmpty = true ↔ _
          rw [sMinus_nil]
          constructor
          · intro h _ _ z hz e
            obtain ⟨y, hy, hyz⟩ := (u2 z).mp (h z ((r2 z).mpr hz))
            exact (tz z).mp e y hy hyz
          · intro h z hz
            refine (u2 z).mpr (Classical.byContradiction fun hc => h trivial trivial z ((r2 z).mp hz) ((tz z).mpr fun y hy hyz => hc ⟨y, hy, hyz⟩))
    rw [second]
    simp only [times]
    constructor
    · rintro ⟨a, b⟩ i hi hbad
      unfold partBad at hbad
      simp only [Bool.or_eq_true, Bool.and_eq_true, decide_eq_true_eq, Bool.not_eq_true', beq_iff_eq, List.contains_iff_mem] at hbad
      rcases hbad with h | ⟨h1, h2, h3, h4, _⟩
      · have := a (i : Int); (first | assumption | exact Nat.le_of_ble_eq_true rfl | exact Nat.add_le_add_left (Nat.le_of_ble_eq_true rfl) _ | exact Nat.le_trans (by assumption) (Nat.le_of_ble_eq_true rfl) | lia | omega)
      · exact b h1 h2 _ h3 h4
    · intro h
      have hb : ∀ t : Int, 0 ≤ t → t < 4 → partBad P hs l t = false := fun t h0 h4 => by
        have := h t.toNat (List.mem_range.mpr (by (first | assumption | exact Nat.le_of_ble_eq_true rfl | exact Nat.add_le_add_left (Nat.le_of_ble_eq_true rfl) _ | exact Nat.le_trans (by assumption) (Nat.le_of_ble_eq_true rfl) | lia | omega)))
        rw [show ((t.toNat : Nat) : Int) = t by (first | assumption | exact Nat.le_of_ble_eq_true rfl | exact Nat.add_le_add_left (Nat.le_of_ble_eq_true rfl) _ | exact Nat.le_trans (by assumption) (Nat.le_of_ble_eq_true rfl) | lia | omega)] at this
        simpa using this
      have dec : ∀ t : Int, 0 ≤ t → t < 4 → timesOf P hs l.name t ≤ 1 ∧ (l.hollow = true → (below P l.name).isEmpty = false → t ∈ (xsOf hs l.name).getD [] → timesOf P hs l.name t ≠ 0) := fun t h0 h4 => by
        have hb' := hb t h0 h4
        unfold partBad at hb'
        rw [Bool.or_eq_false_iff] at hb'
        obtain ⟨b1, b2⟩ := hb'
        refine ⟨by have := of_decide_eq_false b1; (first | assumption | exact Nat.le_of_ble_eq_true rfl | exact Nat.add_le_add_left (Nat.le_of_ble_eq_true rfl) _ | exact Nat.le_trans (by assumption) (Nat.le_of_ble_eq_true rfl) | lia | omega), fun h1 h2 h3 h5 => ?_⟩
        rw [h1, h2, List.contains_iff_mem.mpr h3, h5] at b2
        exact absurd b2 (by decide)
      refine ⟨fun t => ?_, fun h1 h2 z hz => (dec z (hin hz).1 (hin hz).2).2 h1 h2 hz⟩
      by_cases ht : 0 ≤ t ∧ t < 4
      · exact (dec t ht.1 ht.2).1
      · have : timesOf P hs l.name t = 0 := (tz t).mpr fun y _ hy => ht (hin hy)
        (first | assumption | exact Nat.le_of_ble_eq_true rfl | exact Nat.add_le_add_left (Nat.le_of_ble_eq_true rfl) _ | exact Nat.le_trans (by assumption) (Nat.le_of_ble_eq_true rfl) | lia | omega)
  · intro φ hφ
    unfold partF at hφ
    rcases List.mem_append.mp hφ with h | h
    · unfold pairF at h
      obtain ⟨k, hk, h2⟩ := List.mem_flatMap.mp h
      obtain ⟨j, hj, rfl⟩ := List.mem_map.mp h2
      have hk := List.mem_range.mp hk
      have hj := List.mem_range.mp hj
      have at_ : ∀ i < (kidX nm Q l.name).length, ((kidX nm Q l.name).getD i (.rel 0)).ok inst.length ∧ ((kidX nm Q l.name).getD i (.rel 0)).h = 1 := fun i hi => by
        rw [List.getD_eq_getElem?_getD, List.getElem?_eq_getElem hi]
        have hm := List.getElem_mem hi
        refine ⟨hxok _ hm, ?_⟩
        obtain ⟨y, _, e⟩ := List.mem_map.mp hm
        show ((kidX nm Q l.name)[i]).h = 1
        rw [← e]; rfl
      refine ⟨⟨⟨(at_ j (by (first | assumption | exact Nat.le_of_ble_eq_true rfl | exact Nat.add_le_add_left (Nat.le_of_ble_eq_true rfl) _ | exact Nat.le_trans (by assumption) (Nat.le_of_ble_eq_true rfl) | lia | omega))).1, (at_ k hk).1⟩, .head _⟩, fun _ => ?_⟩
      show (max _ _ + 5) + 4 ≤ _
      rw [(at_ j (by (first | assumption | exact Nat.le_of_ble_eq_true rfl | exact Nat.add_le_add_left (Nat.le_of_ble_eq_true rfl) _ | exact Nat.le_trans (by assumption) (Nat.le_of_ble_eq_true rfl) | lia | omega))).2, (at_ k hk).2]; (first | assumption | exact Nat.le_of_ble_eq_true rfl | exact Nat.add_le_add_left (Nat.le_of_ble_eq_true rfl) _ | exact Nat.le_trans (by assumption) (Nat.le_of_ble_eq_true rfl) | lia | omega)
    · cases hb : l.hollow && !(kids Q l.name).isEmpty with
      | false => rw [hb] at h; cases h
      | true =>
        rw [hb] at h
        rw [List.mem_singleton.mp h]
        have hk : kids Q l.name ≠ [] := fun e => by rw [e] at hb; simp at hb
        refine ⟨⟨r1, (hu hk).1⟩, fun hq => ?_⟩
        have hkl : (kids Q l.name).length ≤ Q.length := by
          unfold kids; exact Nat.le_trans (List.length_filter_le _ _) (by rw [List.length_map]; exact Nat.le_refl _)
        have := unite_h (kids Q l.name).length (kidX nm Q l.name) hlen (List.length_pos_iff.mpr hk) (fun x hx => by obtain ⟨y, _, rfl⟩ := List.mem_map.mp hx; rfl)
        show max 1 _ + 4 ≤ _
        (first | assumption | exact Nat.le_of_ble_eq_true rfl | exact Nat.add_le_add_left (Nat.le_of_ble_eq_true rfl) _ | exact Nat.le_trans (by assumption) (Nat.le_of_ble_eq_true rfl) | lia | omega)

theorem part_len {P Q : List Lab} {nm : Str → Int} {l : Lab} (hW : Wf P) (hQ : Q.Perm P) : (partF nm Q l).length = (below P l.name).length * ((below P l.name).length - 1) / 2 + (if l.hollow && decide (0 < (below P l.name).length) then 1 else 0) := by
  have hnQ : (names Q).Nodup := (hQ.map (·.name)).nodup_iff.mpr hW.nodup
  have hperm : (kids Q l.name).Perm (below P l.name) := kids_below hnQ ▸ below_perm hQ
  unfold partF
  rw [List.length_append, pairF_len, show (kidX nm Q l.name).length = (kids Q l.name).length by simp [kidX], hperm.length_eq]
  congr 1
  have : (!(kids Q l.name).isEmpty) = decide (0 < (below P l.name).length) := by
    rw [← hperm.length_eq]
    cases kids Q l.name <;> simp
  rw [this]
  cases l.hollow && decide (0 < (below P l.name).length) <;> rfl
end Mine
end
section
open PySem PySem.W PyProof.Rows PySem.MeetsSeq PySem.SeqAt
set_option maxRecDepth 100000
namespace Mine

section
variable {w : World} {H Z : Heap} {n : Nat} {pk : List Addr} {env : Env} {ρ ρc : Names} {o₀ o₁ o₂ o₃ own own₁ own₂ F : Own} {N : Names → Own → Prop} {R : V → Own → Prop} {sts : List Stmt} {st : Stmt} {mg mb : Str → Option Value} {K : Frag}

theorem Fr'.mono {f : Value} {ds : List V} {G G' : V → Own → Prop} (x : Fr' w H n f own ds G') (h : ∀ d o, G' d o → G d o) : Fr' w H n f own ds G := fun A b s us rm B r =>
  wpAny_mono (x A b s us rm B r) (fun v s' ⟨b', d, o', g, q⟩ => ⟨b', d, o', h _ _ g, q⟩) fun _ _ f => f
theorem Fc.mono {f : Value} {ds : List V} {G G' : V → Own → Prop} (x : Fc w H n f own ds G') (h : ∀ d o, G' d o → G d o) : Fc w H n f own ds G := fun A b s us rm B r =>
  codeAny_mono (x A b s us rm B r) fun q s' p => by
    rcases q with e | (v | _ | _ | _) <;> first | exact p | skip
    obtain ⟨b', d, o', g, z⟩ := p
    exact ⟨b', d, o', h _ _ g, z⟩
/-- a relational contract with one answer -/
theorem Fn.of_fr {f : Value} {ds : List V} {d : V} (x : Fr' w H n f own ds fun d' o => d' = d ∧ o = own₁) (hk : own₁.map (·.1) = own.map (·.1)) : Fn w H n f own ds d own₁ :=
  ⟨hk, fun A b s us rm B hr => wpAny_mono (x A b s us rm B hr) (fun v s' ⟨b', d', o', ⟨h1, h2⟩, _, st, B', rv⟩ => by subst h1 h2; exact ⟨b', st, B', rv⟩) fun _ _ x => x⟩

theorem evinit_fc {C f x dx : Addr} {inst : List (List Int)} (Gv : Gl H mg mb) (X₀ : K.In H) (E : EvC H K mg C) (D : DefAt H f (mem 32 0)) :
    Fc w H (n + 1) (.ref f) [(dx, .attrs x C [])] [.raw (.ref x), .int 4, .lst (inst.map setV)] (fun d o => d = .raw .none ∧ o = [(dx, .attrs x C [("many", .int 4), ("instance", .lst (inst.map setV)), ("ways", .int 0)])]) := by
  refine Fc.enter Gv D P_ev_init rfl fun L q cd ok => ?_
  refine Sx.cons (S1.setAttr X₀ E.cls.set (E.cls.at_ "many" (by (first | kernel_rfl | decide +kernel))).2 (Eg.of (Ev.name (d := .int 4) (by rfl)) ⟨x, dx, [], [], [], Ev.name (by rfl), by simp, ?_⟩))
  refine Sx.cons (S1.setAttr X₀ E.cls.set (E.cls.at_ "instance" (by (first | kernel_rfl | decide +kernel))).2 (Eg.of (Ev.name (d := .lst (inst.map setV)) (by rfl)) ⟨x, dx, _, [], [], Ev.name (by rfl), Nat.le_of_ble_eq_true (by rfl), ?_⟩))
  refine Sx.cons (S1.setAttr X₀ E.cls.set (E.cls.at_ "ways" (by (first | kernel_rfl | decide +kernel))).2 (Eg.of Ev.constInt ⟨x, dx, _, [], [], Ev.name (by rfl), Nat.le_of_ble_eq_true (by rfl), ?_⟩))
  exact Sx.nil ⟨_, [], (List.append_nil _).symm, rfl, rfl, by rfl⟩

theorem evnew_fn {C : Addr} {inst : List (List Int)} (Gv : Gl H mg mb) (X₀ : K.In H) (E : EvC H K mg C) :
    Fn w H (n + 2) (.ref C) [] [.int 4, .lst (inst.map setV)] (evV C inst) [] := by
  obtain ⟨f, M⟩ := E.init
  obtain ⟨ob, fd, k1, k2, k3⟩ := M.obj
  refine Fn.of_fr (Fr'.of (Fc.new X₀ E.makes M.find (by show (K.lookup f).map (·.cls) = _; rw [k1]; exact congrArg some k2) fun x dx => Fc.mono (evinit_fc (n := n) (inst := inst) Gv X₀ E M.at_) fun d o ⟨h1, h2⟩ => ⟨h1, _, [], h2, rfl, rfl⟩)) rfl

/-- a value within an instance in hand is laid down -/
inductive Swp (c : Addr) (d : V) : List (Str × V) → List (Str × V) → Prop
  | nil : Swp c d [] []
  | same {p r r'} : Swp c d r r' → Swp c d (p :: r) (p :: r')
  | here {x r r'} : Swp c d r r' → Swp c d ((x, .raw (.ref c)) :: r) ((x, d) :: r')
theorem Swp.vre {b b' : Heap} {c : Addr} {d : V} (k : Le b b') (hc : VR w b' d (.ref c)) {l l' : List (Str × V)} (h : Swp c d l l') : ∀ {es : List DictEntry}, VRe w b l es → VRe w b' l' es := by
  induction h with
  | nil => intro vs h; cases vs with
    | nil => simp [VRe]
    | cons _ _ => simp [VRe] at h
  | @same p r r' _ ih => intro vs h; obtain ⟨x, d⟩ := p; cases vs with
    | nil => simp [VRe] at h
    | cons v vs => simp only [VRe] at h ⊢; exact ⟨h.1, h.2.1.mono k, ih h.2.2⟩
  | @here x r r' _ ih => intro vs h; cases vs with
    | nil => simp [VRe] at h
    | cons v vs => simp only [VRe] at h ⊢
                   refine ⟨h.1, ?_, ih h.2.2⟩
                   have := h.2.1
                   simp only [VR] at this
                   rw [this]; exact hc

/-- a list or a dict in hand, and what it is when laid down -/
inductive Lay : O → V → Prop
  | list {ds} : Lay (.list ds) (.lst ds)
  | dict {kvs} : Lay (.dict kvs) (.dct kvs)
theorem Lay.vr {b h : Heap} {a : Addr} {o : O} {d : V} (x : Lay o d) (sub : Le b h) (q : OAt w b h a o) : VR w (plusH b h a) d (.ref a) := by
  cases x with
  | list => exact frozenL sub q
  | dict => exact frozenD sub q

theorem Sx.freezeAttr {dx x C c : Addr} {fs fs' : List (Str × V)} {o : O} {d : V} (hc : c ∉ pk) (y : Lay o d) (sw : Swp c d fs fs') (k : Sx w H n pk env sts ρ ((dx, .attrs x C fs') :: own) N R) : Sx w H n pk env sts ρ ((dx, .attrs x C fs) :: (c, o) :: own) N R := fun A o₀ b₀ s₀ Z b s rm S => by
  have S1 : Sta w H env pk o₀ b₀ s₀ Z b s ρ ((c, o) :: (dx, .attrs x C fs) :: own) := S.perm (List.Perm.swap _ _ _)
  have hl := y.vr S1.loc.sub (S1.loc.ow _ (.head _))
  have S2 := S1.freeze hc
  obtain ⟨hx, es, m, hq, hv, hlen⟩ := S1.loc.ow (dx, .attrs x C fs) (.tail _ (.head _))
  exact k A o₀ b₀ s₀ Z _ s rm (Sta.recast (l := []) S2 ⟨le_plusH S1.loc.sub _ _ hx, es, m, hq, sw.vre (le_plusH S1.loc.sub) hl hv, hlen⟩)

/-- a list in hand that a name stands for is laid down -/
theorem Sx.freezeName {c : Addr} {o : O} {d : V} {y : Str} (hc : c ∉ pk) (hy : ρ y = some (.raw (.ref c))) (l : Lay o d) (k : Sx w H n pk env sts (upd ρ y d) own N R) : Sx w H n pk env sts ρ ((c, o) :: own) N R := fun A o₀ b₀ s₀ Z b s rm S => by
  have hl := l.vr S.loc.sub (S.loc.ow _ (.head _))
  have S2 := S.freeze hc
  refine k A o₀ b₀ s₀ Z _ s rm ⟨S2.keys, S2.st, ⟨S2.loc.ok, S2.loc.base, S2.loc.sub, ?_, S2.loc.priv, S2.loc.ow, S2.loc.ownb, S2.loc.ownp, S2.loc.nodup⟩, S2.priv0, S2.own0, S2.pin, S2.pinO, S2.lv⟩
  obtain ⟨m, cm, Fr, hv⟩ := S2.loc.frm
  refine ⟨m, cm, Fr, fun z e he => ?_⟩
  by_cases hz : z = y
  · subst hz
    rw [upd_here] at he; cases he
    obtain ⟨v, h1, h2⟩ := hv z _ hy
    simp only [VR] at h2
    exact ⟨v, h1, h2 ▸ hl⟩
  · rw [upd_there hz] at he; exact hv z e he

theorem Fzd.ins {d : V} {C : Addr} {fs : List (Str × V)} (h : AsI F d C fs) : Fzd w H F d (.ins C fs) := fun b g v B r => by
  rcases h with rfl | ⟨x, dx, rfl, hm⟩
  · exact r.mono (le_allH B.sub)
  · obtain ⟨hx, es, m, hq, hv, _⟩ := B.ow _ hm
    simp only [VR] at r ⊢
    exact ⟨x, dx, es, m, r, le_allH B.sub _ _ hx, allH_some.mpr ⟨.inr (List.mem_map_of_mem hm), hq⟩, hv.mono (le_allH B.sub)⟩
end
end Mine
end
section
open PySem PySem.W PyProof.Rows PySem.MeetsSeq PySem.SeqAt
set_option maxRecDepth 100000
namespace Mine

section
variable {w : World} {H Z : Heap} {n : Nat} {pk : List Addr} {env : Env} {ρ ρc : Names} {o₀ o₁ o₂ o₃ own own₁ own₂ F : Own} {N : Names → Own → Prop} {R : V → Own → Prop} {sts : List Stmt} {st : Stmt} {mg mb : Str → Option Value} {K : Frag}

/-- something new in hand, behind a step that only makes -/
theorem Sta.gainK {b₀ b : Heap} {s₀ s s' : Shared} {a : Addr} {O₁ : O} (S : Sta w H env pk o₀ b₀ s₀ Z b s ρ own) (k : Keeps s s') (hn : s.heap.get? a = none) (h : OAt w b s'.heap a O₁) :
    Sta w H env pk o₀ b₀ s₀ Z b s' ρ ((a, O₁) :: own) ∧ a ∉ pk ∧ a ∉ own.map (·.1) := by
  have L := S.loc
  have k' : Le s.heap s'.heap := Keeps.le k
  have live : ∀ c, (∃ q, s.heap.get? c = some q) → c ≠ a := fun c ⟨q, hq⟩ e => by rw [e, hn] at hq; cases hq
  obtain ⟨m, cm, F, hv⟩ := L.frm
  have hb : b.get? a = none := by
    cases e : b.get? a with
    | none => rfl
    | some q => have := L.sub _ _ e; rw [hn] at this; cases this
  have h0 : s₀.heap.get? a = none := by
    cases e : s₀.heap.get? a with
    | none => rfl
    | some q => obtain ⟨q', hq'⟩ := S.st.live _ _ e; rw [hn] at hq'; cases hq'
  have ho : a ∉ own.map (·.1) := fun hm => by obtain ⟨p, hp, e⟩ := List.mem_map.mp hm; exact live _ (L.ow p hp).live e
  refine ⟨⟨S.keys, ⟨?_, fun c q ha e => k' c q (S.st.keep c q ha e), fun c q e => let ⟨q', hq⟩ := S.st.live c q e; ⟨q', k' c q' hq⟩, S.st.grow, S.st.fresh⟩,
    ⟨L.ok, L.base, L.sub.trans k', ⟨m, cm, F.keep fun c _ q e => k' c q e, hv⟩, L.priv, fun p hp => ?_, fun p hp => ?_, fun p hp => ?_, ?_⟩, S.priv0, fun p hp => ?_, fun c q e => k' c q (S.pin c q e), fun c q e => ⟨fun hm => ?_, (S.pinO c q e).2⟩, S.lv⟩, fun hm => ?_, ho⟩
  · obtain ⟨g, t, e⟩ := S.st.same
    obtain ⟨g', t', e', _⟩ := k
    exact ⟨g', t', by rw [e', e]⟩
  · rcases List.mem_cons.mp hp with rfl | hp
    · exact h
    · exact (L.ow p hp).keep (Le.refl _) fun q e => k' _ q e
  · rcases List.mem_cons.mp hp with rfl | hp
    · exact hb
    · exact L.ownb p hp
  · rcases List.mem_cons.mp hp with rfl | hp
    · exact fun pa => live _ (F.live pa) rfl
    · exact L.ownp p hp
  · rw [List.map_cons, List.nodup_cons]; exact ⟨ho, L.nodup⟩
  · rcases List.mem_cons.mp hp with rfl | hp
    · exact .inr h0
    · exact S.own0 p hp
  · rcases List.mem_cons.mp hm with rfl | hm
    · exact live _ ⟨q, S.pin _ q e⟩ rfl
    · exact (S.pinO c q e).1 hm
  · obtain ⟨q, hq⟩ := S.lv _ hm
    rw [h0] at hq; cases hq

/-- list(e), in hand -/
theorem Eg.listNew {func arg : Expr} {pos : Pos} {d : V} {ds : List V} {G : V → Own → Prop} (x : Ev w H n env ρ own func (.raw (.type "list")) own) (y : Es w H n env ρ own [arg] [d] own₁) (h : AsL own₁ d ds) (hz : ds.length ≤ 100000)
    (g : ∀ a, a ∉ pk → a ∉ own₁.map (·.1) → G (.raw (.ref a)) ((a, .list ds) :: own₁))
    (hp : ∀ pos, (backTo pos (starEach [arg] env)).any (·.1) = false := by intro _; rfl)
    (he : eval (.Call func [arg] [] pos) env = (do callWith pos (← eval func env) [] (backTo pos (starEach [arg] env)) (backToKw pos (keywordEach [] env))) := by rfl) : Eg w H n pk env (.Call func [arg] [] pos) ρ own G := fun A o₀ b₀ s₀ Z b s rm S =>
  Call_ (wpAny_mono (x.run rm S.loc) (fun u s₁ ⟨b₁, st₁, L₁, r₁⟩ => by
    cases r₁
    have S₁ := S.step st₁ L₁ x.1
    exact wp_callWith (H := H) (.type "list") (hp _) (wpAny_mono (y.2 A b₁ s₁ pos rm L₁) (fun us s₂ ⟨b₂, st₂, L₂, r₂⟩ => ⟨L₂.base.trans L₂.sub, by
      have S₂ := S₁.step st₂ L₂ y.1
      cases us with
      | nil => simp [VRs] at r₂
      | cons u us =>
        cases us with
        | cons _ _ => simp [VRs] at r₂
        | nil =>
          simp only [VRs] at r₂
          obtain ⟨a, vs, rfl, ⟨o, ho, hc, m, hd⟩, hs⟩ := seeL L₂ r₂.1 h
          have e := hs.length
          show wpAny (Md w) A (PySem.call (.type "list") [.ref a]) _ _ _
          refine call_list_seq a (.inl rfl) ho hc hd (fun h' c' hk hq => ?_) (by rw [List.size_toArray, e, sizeLine_eq]; (first | assumption | exact Nat.le_of_ble_eq_true rfl | exact Nat.add_le_add_left (Nat.le_of_ble_eq_true rfl) _ | exact Nat.le_trans (by assumption) (Nat.le_of_ble_eq_true rfl) | lia | omega))
          have k' : Keeps s₂ { s₂ with heap := h' } := ⟨_, _, rfl, hk⟩
          obtain ⟨S₃, g1, g2⟩ := S₂.gainK (O₁ := .list ds) k' (get_size_none _) ⟨vs, ⟨_, _, hq, rfl, rfl, rfl⟩, hs⟩
          exact ⟨b₂, _, _, g _ g1 g2, S₃, rfl, st₁.grow.trans st₂.grow⟩⟩) fun _ _ f => f)) fun _ _ f => f) he

/-- l.remove(x), l of texts -/
theorem rem_loop (l : Addr) (items : Array Value) (k₀ : Nat) (sl : Array (Option Value)) (x : Value) (e : Value → Bool) (he : ∀ y, y ∈ items → EqGives y x (e y)) (j : Nat) (hj : j < items.size) (hit : e items[j] = true) (k : Nat) (hs1 : items.size ≤ sizeLine) :
    ∀ i : Nat, j - i = k → i ≤ j → (∀ m (hm : m < items.size), i ≤ m → m < j → e items[m] = false) → Meets (Builtin.«list.remove.loop» ⟨[.ref l, x, rawInt i], []⟩)
      (fun _ R s => s.heap.get? l = some { cls := .type "list", dict := none, data := .seq items k₀, slots := sl } ∧ R (.ok (.ret .none)) { s with heap := s.heap.update l (Obj.mapSeq fun xs => xs.eraseIdxIfInBounds j) }) := by
  induction k with
  | zero =>
    intro i hk hij hno prog w A R s h
    obtain ⟨hp, g, d, tk, os⟩ := s; obtain ⟨hl, h⟩ := h
    have hij' : i = j := by (first | assumption | exact Nat.le_of_ble_eq_true rfl | exact Nat.add_le_add_left (Nat.le_of_ble_eq_true rfl) _ | exact Nat.le_trans (by assumption) (Nat.le_of_ble_eq_true rfl) | lia | omega)
    subst hij'
    wp_walk using AutoSeq1.wpAny_loadPart' hl
    have hi : items[((i : Nat) : Int).toNat]? = some items[i] := by simp [hj]
    rw [hi]
    refine wpAny_bind (he _ (Array.getElem_mem hj) prog w _ _ _ _ ?_)
    rw [hit]
    have hz' : (items.eraseIdxIfInBounds i).size ≤ sizeLine + 1 := Nat.le_trans (size_erased items _) (Nat.le_succ_of_le hs1)
    wp_walk using (wpAny_updateSeq hl rfl (hz := hs1) (_hz' := hz')), AutoSeq1.wpAny_loadPart' hl
    simpa using h
  | succ k ih =>
    intro i hk hij hno prog w A R s h
    obtain ⟨hp, g, d, tk, os⟩ := s; obtain ⟨hl, h⟩ := h
    have hlt : i < items.size := by (first | assumption | exact Nat.le_of_ble_eq_true rfl | exact Nat.add_le_add_left (Nat.le_of_ble_eq_true rfl) _ | exact Nat.le_trans (by assumption) (Nat.le_of_ble_eq_true rfl) | lia | omega)
    wp_walk using AutoSeq1.wpAny_loadPart' hl
    have hi : items[((i : Nat) : Int).toNat]? = some items[i] := by simp [hlt]
    have hc : ((i : Int) + 1) = ((i + 1 : Nat) : Int) := by push_cast; rfl
    rw [hi]
    refine wpAny_bind (he _ (Array.getElem_mem hlt) prog w _ _ _ _ ?_)
    rw [hno i hlt (Nat.le_refl _) (by (first | assumption | exact Nat.le_of_ble_eq_true rfl | exact Nat.add_le_add_left (Nat.le_of_ble_eq_true rfl) _ | exact Nat.le_trans (by assumption) (Nat.le_of_ble_eq_true rfl) | lia | omega))]
    wp_walk
    rw [hc]
    exact ⟨plainId_quiet plain_remove_loop _, codeAny_builtin entry_remove_loop (by
      rw [Around.under_plainId plain_remove_loop _]
      exact ih (i + 1) (by (first | assumption | exact Nat.le_of_ble_eq_true rfl | exact Nat.add_le_add_left (Nat.le_of_ble_eq_true rfl) _ | exact Nat.le_trans (by assumption) (Nat.le_of_ble_eq_true rfl) | lia | omega)) (by (first | assumption | exact Nat.le_of_ble_eq_true rfl | exact Nat.add_le_add_left (Nat.le_of_ble_eq_true rfl) _ | exact Nat.le_trans (by assumption) (Nat.le_of_ble_eq_true rfl) | lia | omega)) (fun m hm h1 h2 => hno m hm (by (first | assumption | exact Nat.le_of_ble_eq_true rfl | exact Nat.add_le_add_left (Nat.le_of_ble_eq_true rfl) _ | exact Nat.le_trans (by assumption) (Nat.le_of_ble_eq_true rfl) | lia | omega)) h2) prog w A R _ ⟨hl, h⟩)⟩

theorem rem_list (l : Addr) (items : Array Value) (k₀ : Nat) (sl : Array (Option Value)) (x : Value) (e : Value → Bool) (he : ∀ y, y ∈ items → EqGives y x (e y)) (j : Nat) (hj : j < items.size)
    (hit : e items[j] = true) (hno : ∀ m (hm : m < items.size), m < j → e items[m] = false) (hs1 : items.size ≤ sizeLine) :
    Meets (Builtin.«list.remove» ⟨[.ref l, x], []⟩)
      (fun _ R s => s.heap.get? l = some { cls := .type "list", dict := none, data := .seq items k₀, slots := sl } ∧ R (.ok (.ret .none)) { s with heap := s.heap.update l (Obj.mapSeq fun xs => xs.eraseIdxIfInBounds j) }) := by
  intro prog w A R s h
  obtain ⟨hp, g, d, tk, os⟩ := s; obtain ⟨hl, h⟩ := h
  wp_walk using AutoSeq1.wpAny_loadPart' hl
  exact ⟨plainId_quiet plain_remove_loop _, codeAny_builtin entry_remove_loop (by
    rw [Around.under_plainId plain_remove_loop _]
    exact rem_loop l items k₀ sl x e he j hj hit _ hs1 0 rfl (Nat.zero_le _) (fun m hm _ h2 => hno m hm h2) prog w A R _ ⟨hl, h⟩)⟩
end
end Mine
end
section
open PySem PySem.W PyProof.Rows PySem.MeetsSeq PySem.SeqAt
set_option maxRecDepth 100000
namespace Mine

section
variable {w : World} {H Z : Heap} {n : Nat} {pk : List Addr} {env : Env} {ρ ρc : Names} {o₀ o₁ o₂ o₃ own own₁ own₂ F : Own} {N : Names → Own → Prop} {R : V → Own → Prop} {sts : List Stmt} {st : Stmt} {mg mb : Str → Option Value} {K : Frag}

theorem map_eraseIdx' {α β : Type} {f : α → β} : ∀ {l : List α} {j : Nat}, (l.eraseIdx j).map f = (l.map f).eraseIdx j
  | [], _ => rfl
  | _ :: _, 0 => rfl
  | _ :: l, j + 1 => by simp [List.eraseIdx_cons_succ, map_eraseIdx' (l := l)]
theorem VRs.eraseIdx {b : Heap} : ∀ {ds : List V} {vs : List Value} (j : Nat), VRs w b ds vs → VRs w b (ds.eraseIdx j) (vs.eraseIdx j)
  | [], [], _, _ => by simp [VRs]
  | _ :: _, _ :: _, 0, h => by simp only [VRs, List.eraseIdx_cons_zero] at h ⊢; exact h.2
  | _ :: _, _ :: _, j + 1, h => by simp only [VRs, List.eraseIdx_cons_succ] at h ⊢; exact ⟨h.1, VRs.eraseIdx j h.2⟩
  | [], _ :: _, _, h => by simp [VRs] at h
  | _ :: _, [], _, h => by simp [VRs] at h

theorem S1.remove {o elt : Expr} {apos cpos pos : Pos} {a : Addr} {xs : List Str} {ds₀ : List V} {y : Str} {l r : Own} (x : Ev w H n env ρ own o (.raw (.ref a)) own₁) (hm : (a, O.list ds₀) ∈ own₁) (v : Ev w H n env ρ own₁ elt (.str y) (l ++ (a, .list (xs.map .str)) :: r)) (hy : y ∈ xs) (hsz : xs.length ≤ 10000)
    (h : N ρ (l ++ (a, .list ((xs.erase y).map .str)) :: r))
    (hbase : attributeBase o "remove" env (eval o env) = eval o env := by rfl)
    (hfew : methodCallForm (([elt] : List Expr).length + ([] : List Keyword).length) (backTo cpos (starEach [elt] env)) (backToKw cpos (keywordEach [] env)) = true := by rfl)
    (hline : (apos.endLine == cpos.line) = true := by rfl) (htrees : backTo cpos (starEach [elt] env) = [(false, eval elt env)] := by rfl)
    (hi : interactive env = false := by rfl) (hs : swapsWith (.Call (.Attribute o "remove" apos) [elt] [] cpos) none pos.line env = pure false := by rfl) :
    S1 w H n pk env (.Expr (.Call (.Attribute o "remove" apos) [elt] [] cpos) pos) ρ own N R := fun A o₀ b₀ s₀ Z b s rm S => by
  refine wpAny_Expr_any ?_ hi hs
  rw [arm_eval_Call, hbase]
  refine wpAny_bind (wpAny_mono (x.run rm S.loc) (fun ov s₁ ⟨b₁, st₁, L₁, r₁⟩ => ?_) fun _ _ e => e)
  cases r₁
  obtain ⟨vs₀, ⟨ob, k₀, hob, hc, hdn, hd⟩, _⟩ := L₁.ow _ hm
  refine wpAny_bind (wpAny_standAt ?_)
  have hpos : methodCallPos true o env apos cpos = pure cpos := by unfold methodCallPos; simp [hline]
  unfold methodCall
  rw [hfew]
  refine wpAny_bind (wpAny_holding (getMethod_builtin ⟨_, hob, hc⟩ PySem.F.plainAttrs_list PySem.F.slot_list_remove PySem.F.type_list_remove (fun a e => by cases e; exact ⟨_, hob, hdn⟩) ?_))
  refine wpAny_bind (wpAny_of_eq hpos ?_)
  rw [htrees]
  refine Calls.callWith_builtin rfl (Calls.evalArgs_plain (Calls.spliced_cons (wpAny_mono (v.run rm L₁) (fun u s₂ ⟨b₂, st₂, L₂, r₂⟩ => Calls.spliced_nil ?_) fun _ _ e => e)))
  have S₂ := (S.step st₁ L₁ x.1).step st₂ L₂ v.1
  obtain ⟨vs, ⟨o₂, k₂, ho₂, hc₂, hdn₂, hd₂⟩, hvs⟩ := L₂.ow (a, .list (xs.map .str)) (List.mem_append_right _ (.head _))
  obtain ⟨t, rfl⟩ := r₂
  obtain ⟨c₂, dn₂, dt₂, sl₂⟩ := o₂
  replace hc₂ : c₂ = .type "list" := hc₂
  replace hdn₂ : dn₂ = none := hdn₂
  replace hd₂ : dt₂ = .seq vs.toArray k₂ := hd₂
  subst hc₂ hdn₂ hd₂
  have hlen : vs.length = xs.length := by rw [hvs.length, List.length_map]
  have hj : xs.idxOf y < xs.length := List.idxOf_lt_length_of_mem hy
  have at_ : ∀ i (hi : i < vs.length), ∃ t, vs[i] = .str (xs[i]'(by (first | assumption | exact Nat.le_of_ble_eq_true rfl | exact Nat.add_le_add_left (Nat.le_of_ble_eq_true rfl) _ | exact Nat.le_trans (by assumption) (Nat.le_of_ble_eq_true rfl) | lia | omega))) t := fun i hi => by
    obtain ⟨d, hd, r⟩ := hvs.get' (List.getElem?_eq_getElem hi)
    rw [List.getElem?_map, List.getElem?_eq_getElem (by (first | assumption | exact Nat.le_of_ble_eq_true rfl | exact Nat.add_le_add_left (Nat.le_of_ble_eq_true rfl) _ | exact Nat.le_trans (by assumption) (Nat.le_of_ble_eq_true rfl) | lia | omega))] at hd
    cases hd
    obtain ⟨t, ht⟩ := r
    exact ⟨t, ht⟩
  refine call_meets PySem.F.slot_list_remove ⟨_, ho₂, rfl⟩ PySem.F.entry_list_remove (PySem.F.args_list_remove_2 _ _)
    (rem_list a vs.toArray k₂ sl₂ (.str y t) (isStrV y) (fun z hz => ?_) (xs.idxOf y) (by simp; (first | assumption | exact Nat.le_of_ble_eq_true rfl | exact Nat.add_le_add_left (Nat.le_of_ble_eq_true rfl) _ | exact Nat.le_trans (by assumption) (Nat.le_of_ble_eq_true rfl) | lia | omega)) ?_ (fun m hm hlt => ?_) (by rw [List.size_toArray, hlen, sizeLine_eq]; (first | assumption | exact Nat.le_of_ble_eq_true rfl | exact Nat.add_le_add_left (Nat.le_of_ble_eq_true rfl) _ | exact Nat.le_trans (by assumption) (Nat.le_of_ble_eq_true rfl) | lia | omega))) ⟨ho₂, ?_⟩
  · obtain ⟨z', t', rfl⟩ := hvs.memStr (by simpa using hz)
    exact fun _ _ _ _ _ _ hq => wpAny_eqBool_str hq
  · obtain ⟨t', e⟩ := at_ (xs.idxOf y) (by (first | assumption | exact Nat.le_of_ble_eq_true rfl | exact Nat.add_le_add_left (Nat.le_of_ble_eq_true rfl) _ | exact Nat.le_trans (by assumption) (Nat.le_of_ble_eq_true rfl) | lia | omega))
    simp only [List.getElem_toArray]
    rw [e]
    simp [isStrV, List.getElem_idxOf]
  · have hm' : m < vs.length := by simpa using hm
    obtain ⟨t', e⟩ := at_ m hm'
    simp only [List.getElem_toArray]
    rw [e]
    have := List.not_of_lt_findIdx (xs := xs) (p := fun z => z == y) (i := m) hlt
    simpa [isStrV] using this
  · refine ⟨b₂, ρ, _, h, S₂.change (k := s₂.toks) (Heap.SameBut.update ..) ⟨vs.eraseIdx (xs.idxOf y), ?_, ?_⟩⟩
    · obtain ⟨n', hd'⟩ := Obj.data_mapSeq (o := { cls := .type "list", dict := none, data := .seq vs.toArray k₂, slots := sl₂ }) rfl (fun xs' => xs'.eraseIdxIfInBounds (xs.idxOf y))
      refine ⟨_, n', Heap.get?_update_self _ ho₂ (Obj.isFreed_of_seq hd'), (Obj.cls_mapSeq ..).trans rfl, rfl, ?_⟩
      rw [hd']
      congr 1
      apply Array.toList_inj.mp
      simp
    · rw [List.erase_eq_eraseIdx_of_idxOf rfl, map_eraseIdx']
      exact hvs.eraseIdx _

/-- for a, b, .. in nothing -/
theorem S1.forNil {target iter : Expr} {body : List Stmt} {pos : Pos} (src : Src w H n env ρ own [] iter [] own₁) (h : N ρ own₁)
    (hs : ∀ x, foldedSetIterable iter env x = pure x := by intro _; rfl) : S1 w H n pk env (.For target iter body [] pos) ρ own N R := fun A o₀ b₀ s₀ Z b s rm S => by
  refine wpAny_For (wpAny_mono (src.2 A b s rm S.loc) (fun xv s₁ h₁ => wpAny_mono h₁ (fun it s₂ h₂ => ?_) fun _ _ e => e) fun _ _ e => e) hs
  obtain ⟨b₂, st₂, L₂, I, fp, wr, P, St, rfl, hw0, K⟩ := h₂
  have S₂ := S.step st₂ L₂ src.1
  have w00 : ∀ a ∈ wr, s₀.heap.get? a = none := fun a ha => by
    cases e : s₀.heap.get? a with
    | none => rfl
    | some q => obtain ⟨q', hq⟩ := S.st.live a q e; rw [hw0 a ha] at hq; cases hq
  have wZ : ∀ a ∈ wr, Z.get? a = none := fun a ha => by
    cases e : Z.get? a with
    | none => rfl
    | some q => have := S.pin a q e; rw [hw0 a ha] at this; cases this
  refine codeAny_forLoop_any (fun _ s' => s' = s₂) ?_ 0 rfl
  rintro k s' rfl
  refine K.walks.done _ _ _ K.st fun h₁ tk₁ hk₁ => wpAny_execs_nil ?_
  exact ⟨b₂, ρ, own₁, h, S₂.moved hk₁ fun a ha => ⟨(K.new a ha).1, (K.new a ha).2.1, (K.new a ha).2.2.1, w00 a ha, wZ a ha⟩⟩

/-- a comprehension within a comprehension -/
noncomputable def compChk2 (scope scopeO sc : Scope) (x : Str) : Bool :=
  (scope.kind == .function) && scope.names.all (fun y => y.2 != .free || (scopeO.names.contains (y.1, .free) && sc.names.contains (y.1, .cell))) && decide ((scope.names.map (·.1)).Nodup) && (scope.names.contains (x, .local) || scope.names.contains (x, .cell))
theorem CompOk.nest {scope scopeO sc : Scope} {x : Str} {L a C : Addr} {q : Str} {cd : Value} (h : compChk2 scope scopeO sc x = true) : CompOk scope (cenvOf scopeO (fenv sc L a q cd) C) x := by
  unfold compChk2 at h
  simp only [Bool.and_eq_true, Bool.or_eq_true, decide_eq_true_eq, List.all_eq_true] at h
  obtain ⟨⟨⟨h1, h2⟩, h3⟩, h4⟩ := h
  refine ⟨by simpa using h1, fun y hy hf => ?_, h3, ?_⟩
  · rcases h2 y hy with h | ⟨h5, h6⟩
    · rw [hf] at h; exact absurd h (by decide)
    · refine cellsFrom_isSome (.inr ?_)
      have hc : ((fenv sc L a q cd).cells.lookup y.1).isSome = true := cellsFrom_isSome (.inl (List.contains_iff_mem.mp h6))
      obtain ⟨c, hc⟩ := Option.isSome_iff_exists.mp hc
      rw [capt_lookup hc (.inl (List.contains_iff_mem.mp h5))]; rfl
  · rcases h4 with h | h
    · exact .inl (List.contains_iff_mem.mp h)
    · exact .inr (List.contains_iff_mem.mp h)
end
end Mine
end
section
open PySem PySem.W PyProof.Rows PySem.MeetsSeq PySem.SeqAt
set_option maxRecDepth 100000
namespace Mine

noncomputable def dirOf (l : Lab) : List Str := (if l.parent = ("" : Str) then [] else [l.parent]) ++ l.parts
/-- what the signatures' class asks of the items -/
structure QOk (Q : List Lab) : Prop where
  nd : (names Q).Nodup
  par : ∀ l ∈ Q, l.parent = ("" : Str) ∨ ∃ k ∈ Q, k.name = l.parent ∧ k.parts = []
  parts : ∀ l ∈ Q, ∀ y ∈ l.parts, y ∈ names Q
  ap : ∀ l ∈ Q, l.parts ≠ [] → l.hollow = false
  pl : ∀ l ∈ Q, l.parts.length ≤ 10
  len : Q.length ≤ 10
  rank : ∃ r : Str → Nat, ∀ l ∈ Q, ∀ y ∈ dirOf l, r y < r l.name
theorem QOk.dir {Q : List Lab} (h : QOk Q) {l : Lab} (hl : l ∈ Q) : ∀ y ∈ dirOf l, y ∈ names Q := by
  intro y hy
  unfold dirOf at hy
  rcases List.mem_append.mp hy with h1 | h1
  · rcases h.par l hl with e | ⟨k, hk, e, _⟩
    · rw [if_pos e] at h1; cases h1
    · by_cases e0 : l.parent = ("" : Str)
      · rw [if_pos e0] at h1; cases h1
      · rw [if_neg e0] at h1
        rw [List.mem_singleton.mp h1, ← e]
        exact List.mem_map_of_mem (f := (·.name)) hk
  · exact h.parts l hl y h1
theorem QOk.of {P Q : List Lab} (hW : Wf P) (hp : Q.Perm P) (hl : P.length ≤ 8) : QOk Q where
  nd := (hp.map (·.name)).nodup_iff.mpr hW.nodup
  par := fun l h => by
    rcases hW.parent l (hp.mem_iff.mp h) with e | ⟨k, hk, e1, e2, _⟩
    · exact .inl e
    · exact .inr ⟨k, hp.mem_iff.mpr hk, e1, e2⟩
  parts := fun l h y hy => by
    obtain ⟨k, hk, e, _⟩ := hW.parts l (hp.mem_iff.mp h) y hy
    exact e ▸ List.mem_map_of_mem (f := (·.name)) (hp.mem_iff.mpr hk)
  ap := fun l h hne => (hW.apart l (hp.mem_iff.mp h) hne).2
  pl := fun l h => hW.parts_len l (hp.mem_iff.mp h)
  len := by rw [hp.length_eq]; (first | assumption | exact Nat.le_of_ble_eq_true rfl | exact Nat.add_le_add_left (Nat.le_of_ble_eq_true rfl) _ | exact Nat.le_trans (by assumption) (Nat.le_of_ble_eq_true rfl) | lia | omega)
  rank := ⟨rk P, fun l h y hy => by
    unfold dirOf at hy
    rcases List.mem_append.mp hy with h1 | h1
    · rcases hW.parent l (hp.mem_iff.mp h) with e | ⟨k, hk, e1, _, e2⟩
      · rw [if_pos e] at h1; cases h1
      · by_cases e0 : l.parent = ("" : Str)
        · rw [if_pos e0] at h1; cases h1
        · rw [if_neg e0] at h1
          rw [List.mem_singleton.mp h1, ← e1]; exact e2
    · obtain ⟨k, _, _, e2⟩ := hW.parts l (hp.mem_iff.mp h) y h1
      exact e2⟩

theorem entV_has {Q : List Lab} {x : Str} : (lookV (entV Q) x).isSome = (names Q).contains x := by
  induction Q with
  | nil => rfl
  | cons l Q ih =>
    show (lookV ((l.name, itemV l) :: entV Q) x).isSome = _
    rw [look_cons, names, List.map_cons, List.contains_cons]
    by_cases e : l.name = x
    · rw [if_pos e, e]; simp
    · rw [if_neg e, ih]
      have : (x == l.name) = false := by simpa using Ne.symm e
      rw [this]; rfl

section
variable {w : World} {H Z : Heap} {n : Nat} {pk : List Addr} {env : Env} {ρ ρc : Names} {o₀ o₁ o₂ o₃ own own₁ own₂ F : Own} {N : Names → Own → Prop} {R : V → Own → Prop} {sts : List Stmt} {st : Stmt} {mg mb : Str → Option Value} {K : Frag}

noncomputable def fs1 (e st : Addr) : List (Str × V) := [("entries", .raw (.ref e)), ("stands", .raw (.ref st)), ("opened", .lst [])]
noncomputable def fs2 (Q : List Lab) : List (Str × V) := [("entries", .dct (entV Q)), ("stands", .lst ((names Q).map .str)), ("opened", .lst [])]

theorem take_fc {C f x dx e st : Addr} {Q : List Lab} {l : Lab} (Gv : Gl H mg mb) (Bl : Blts mg mb) (X₀ : K.In H) (S : SigC H K mg C) (D : DefAt H f (mem 50 1)) (hn : l.name ∉ names Q) (ha : l.parts ≠ [] → l.hollow = false) (hQ : Q.length ≤ 100) (hz : l.parts.length ≤ 10) :
    Fr' w H (n + 1) (.ref f) [(dx, .attrs x C (fs1 e st)), (e, .dict (entV Q)), (st, .list ((names Q).map .str))] [.raw (.ref x), itemV l] (fun d o => d = .raw .none ∧ o = [(dx, .attrs x C (fs1 e st)), (e, .dict (entV (Q ++ [l]))), (st, .list ((names (Q ++ [l])).map .str))]) := by
  refine Fr'.enter Gv D P_sg_take rfl fun L q cd ok => ?_
  refine Sx.cons (S1.for (ds := [.str l.name]) (fun i ρ' own' => ρ' "self" = some (.raw (.ref x)) ∧ ρ' "item" = some (itemV l) ∧ own' = if i = 0 then [(dx, .attrs x C (fs1 e st)), (e, .dict (entV Q)), (st, .list ((names Q).map .str))] else [(dx, .attrs x C (fs1 e st)), (e, .dict (entV (Q ++ [l]))), (st, .list ((names (Q ++ [l])).map .str))])
    (Src.of (Ev.sub (Ev.name (d := itemV l) (by rfl)) Ev.constInt (Op2.subTup (d := .tup [.str l.name]) (by decide) (by rfl))) Itr.tup (List.nil_sublist _)) (.inl (by rfl)) ⟨by rfl, by rfl, rfl⟩ ?_ ?_)
  · rintro i d hd ρ' own' ⟨h1, h2, rfl⟩
    have hi : i = 0 := by have := (List.getElem?_eq_some_iff.mp hd).1; simpa using this
    subst hi
    cases hd
    rw [if_pos rfl]
    have isI : ∀ {r : Own}, AsI ((dx, O.attrs x C (fs1 e st)) :: r) (.raw (.ref x)) C (fs1 e st) := .own (.head _)
    have ent : ∀ {r : Own} {p1 p2 : Pos}, Ev w H n (fenv (mem 50 1).2.2 L f q cd) (upd ρ' "name" (.str l.name)) ((dx, O.attrs x C (fs1 e st)) :: r) (.Attribute (.Name "self" p1) "entries" p2) (.raw (.ref e)) ((dx, O.attrs x C (fs1 e st)) :: r) := fun {r p1 p2} =>
      Ev.attr X₀ (Ev.name h1) isI S.cls.ok (S.cls.at_ "entries" (by (first | kernel_rfl | decide +kernel))).1 (by rfl)
    refine Sx.cons (S1.skip (Te.cast (Te.cmp (Ev.name (d := .str l.name) (by rfl)) ent (Op2.inDct (kvs := entV Q) (.own (.tail _ (.head _))))) ?_) ?_)
    · rw [entV_has]; simpa using hn
    refine Sx.cons (S1.setD (Eg.of (Ev.name (d := itemV l) h2) ⟨e, l.name, entV Q, [(dx, O.attrs x C (fs1 e st))], [(st, .list ((names Q).map .str))], _, ent, Ev.name (by rfl), by rw [entV, List.length_map]; (first | assumption | exact Nat.le_of_ble_eq_true rfl | exact Nat.add_le_add_left (Nat.le_of_ble_eq_true rfl) _ | exact Nat.le_trans (by assumption) (Nat.le_of_ble_eq_true rfl) | lia | omega), ?_⟩))
    have e1 : storedV (entV Q) l.name (itemV l) = entV (Q ++ [l]) := by
      rw [storedV_new]
      · simp [entV]
      · rw [show (entV Q).map (·.1) = names Q by simp [entV, names]]; exact hn
    rw [e1]
    refine Sx.cons (S1.append (l := [(dx, O.attrs x C (fs1 e st)), (e, .dict (entV (Q ++ [l])))]) (r := []) (ds := (names Q).map .str) (d := .str l.name) (Ev.attr X₀ (Ev.name h1) isI S.cls.ok (S.cls.at_ "stands" (by (first | kernel_rfl | decide +kernel))).1 (d := .raw (.ref st)) (by rfl)) (.tail _ (.tail _ (.head _))) (Ev.name (by rfl)) (by rw [List.length_map, List.length_map]; (first | assumption | exact Nat.le_of_ble_eq_true rfl | exact Nat.add_le_add_left (Nat.le_of_ble_eq_true rfl) _ | exact Nat.le_trans (by assumption) (Nat.le_of_ble_eq_true rfl) | lia | omega)) (Sx.nil ⟨h1, h2, ?_⟩))
    simp [names]
  · rintro ρ' own' ⟨h1, h2, rfl⟩
    rw [if_neg (by simp)]
    refine Sx.cons (S1.skip (Te.cast (Ta.te (Ta.and2 (q1 := decide ((0 : Int) < (l.parts.map V.str).length)) (q2 := l.hollow) (Te.cmp (Ev.call (o₁ := []) (o₂ := []) (o₃ := []) (r := [(dx, .attrs x C (fs1 e st)), (e, .dict (entV (Q ++ [l]))), (st, .list ((names (Q ++ [l])).map .str))]) (Ev.blt Gv (by rfl) Bl.len.1 Bl.len.2) (Es.cons (Ev.sub (Ev.name (d := itemV l) h2) Ev.constInt (Op2.subTup (d := .tup (l.parts.map .str)) (by decide) (by rfl))) Es.nil) (.builtin _) (Fn.lenT (by rw [List.length_map]; (first | assumption | exact Nat.le_of_ble_eq_true rfl | exact Nat.add_le_add_left (Nat.le_of_ble_eq_true rfl) _ | exact Nat.le_trans (by assumption) (Nat.le_of_ble_eq_true rfl) | lia | omega)))) Ev.constInt Op2.gtInt) fun _ => Te.plain (Ev.sub (Ev.name (d := itemV l) h2) Ev.constInt (Op2.subTup (d := .raw (.bool l.hollow)) (by decide) (by rfl))) Tru.bool)) ?_) (Sx.nil ⟨_, [], (List.append_nil _).symm, rfl, rfl, rfl⟩))
    by_cases hp : l.parts = []
    · rw [hp]; rfl
    · rw [ha hp, Bool.and_false]

theorem above_fn {C f : Addr} {s E : V} {fs : List (Str × V)} {Q : List Lab} {l : Lab} (Gv : Gl H mg mb) (Bl : Blts mg mb) (X₀ : K.In H) (S : SigC H K mg C) (D : DefAt H f (mem 50 2)) (hQ : QOk Q) (hs : SigOk own s C fs E Q) (hl : l ∈ Q) (hf : lookV fs "parent" = none ∧ lookV fs "supers" = none ∧ lookV fs "direct" = none ∧ lookV fs "is_subset" = none) :
    Fn w H (n + 3) (.ref f) own [s, .str l.name] (.raw .none) own := by
  obtain ⟨fp, Mp⟩ := S.parent
  obtain ⟨fd, Md⟩ := S.direct
  obtain ⟨fb, Mb⟩ := S.is_subset
  refine Fn.enter (n := n + 2) Gv D P_sg_look rfl rfl fun L q cd ok => ?_
  refine Sx.cons (S1.for (ds := (dirOf l).map .str) (fun i ρ' own' => own' = own ∧ ρ' "self" = some s ∧ ρ' "name" = some (.str l.name))
    (Src.of (Ev.methO X₀ (Ev.name (d := s) (by rfl)) hs.isI S.cls.ok Md hf.2.2.1 (Es.cons (Ev.name (d := .str l.name) (by rfl)) Es.nil) (direct_fn (n := n) Gv Bl X₀ S Md.at_ hs hl (hQ.pl l hl) hf.1 hf.2.1)) Itr.tup (List.nil_sublist _)) (.inl (by rfl)) ⟨rfl, by rfl, by rfl⟩ ?_ ?_)
  · rintro i d hd ρ' own' ⟨rfl, h1, h2⟩
    obtain ⟨y, hy, rfl⟩ : ∃ y ∈ dirOf l, d = .str y := by
      rw [List.getElem?_map] at hd
      obtain ⟨y, e1, e2⟩ := Option.map_eq_some_iff.mp hd
      exact ⟨y, List.mem_of_getElem? e1, e2.symm⟩
    refine Sx.cons (S1.skip (Te.cast (Te.cmp (Ev.name (d := .str y) (by rfl)) (Ev.attr X₀ (Ev.name h1) hs.isI S.cls.ok (S.cls.at_ "entries" (by (first | kernel_rfl | decide +kernel))).1 hs.ent hs.hand) (Op2.notInDct hs.isD)) ?_) (Sx.nil ⟨rfl, h1, h2⟩))
    rw [entV_has, List.contains_iff_mem.mpr (hQ.dir hl y hy)]; rfl
  · rintro ρ' own' ⟨rfl, h1, h2⟩
    have par : Fn w H (n + 2) (.ref fp) own' [s, .str l.name] (.str l.parent) own' := (parent_fn (n := n) Gv X₀ S Mp.at_ hs hl).le (by (first | assumption | exact Nat.le_of_ble_eq_true rfl | exact Nat.add_le_add_left (Nat.le_of_ble_eq_true rfl) _ | exact Nat.le_trans (by assumption) (Nat.le_of_ble_eq_true rfl) | lia | omega))
    refine Sx.cons (S1.skip (Te.cast (Ta.te (Ta.and2 (q1 := l.parent != ("" : Str)) (q2 := false) (Te.cmp (Ev.methO X₀ (Ev.name h1) hs.isI S.cls.ok Mp hf.1 (Es.cons (Ev.name h2) Es.nil) par) Ev.constStr Op2.neStr) fun h => ?_)) (by simp)) (Sx.nil ⟨rfl, [], by simp⟩))
    rcases hQ.par l hl with e | ⟨k, hk, e1, e2⟩
    · rw [e] at h; exact absurd h (by (first | kernel_rfl | decide +kernel))
    · refine Te.plain (Ev.cast (Ev.methO X₀ (Ev.name h1) hs.isI S.cls.ok Mb hf.2.2.2 (Es.cons (Ev.methO X₀ (Ev.name h1) hs.isI S.cls.ok Mp hf.1 (Es.cons (Ev.name h2) Es.nil) par) Es.nil) ?_) rfl) Tru.bool
      have := (subset_fn (w := w) (n := n) Gv Bl X₀ S Mb.at_ hs hk (hQ.pl k hk)).le (n := n + 2) (by (first | assumption | exact Nat.le_of_ble_eq_true rfl | exact Nat.add_le_add_left (Nat.le_of_ble_eq_true rfl) _ | exact Nat.le_trans (by assumption) (Nat.le_of_ble_eq_true rfl) | lia | omega))
      rw [e1, e2] at this
      exact this

theorem fields_fc {C f x dx : Addr} {E : V} {fs : List (Str × V)} {Q : List Lab} {xs : List Str} (Gv : Gl H mg mb) (X₀ : K.In H) (S : SigC H K mg C) (D : DefAt H f (mem 50 5)) (hQ : QOk Q) (he : lookV fs "entries" = some (.dct (entV Q))) (ho : lookV fs "ordered" = some (.lst (xs.map .str))) (hx : ∀ y ∈ xs, y ∈ names Q) :
    Fr' w H (n + 1) (.ref f) [(dx, .attrs x C fs)] [.raw (.ref x)] (fun d o => d = .lst [] ∧ o = [(dx, .attrs x C fs)]) := by
  refine Fr'.enter Gv D P_sg_fields rfl fun L q cd ok => ?_
  refine Sx.cons (S1.tupS (names := ["found", "group"]) (Eg.tuple (Egs.cons (Eg.list fun a ha1 ha2 => Egs.cons (Eg.of Ev.constInt (Egs.nil ⟨by simp, _, rfl, rfl, ?_⟩))))) (st2 (.inl (by rfl)) (.inl (by rfl))))
  have isI : ∀ {r : Own} {p : Addr × O}, AsI (p :: (dx, O.attrs x C fs) :: r) (.raw (.ref x)) C fs := .own (.tail _ (.head _))
  refine Sx.cons (S1.for (ds := xs.map .str) (fun i ρ' own' => own' = [(a, .list []), (dx, .attrs x C fs)] ∧ ρ' "self" = some (.raw (.ref x)) ∧ ρ' "found" = some (.raw (.ref a)))
    (Src.of (Ev.attr X₀ (Ev.name (d := .raw (.ref x)) (by rfl)) isI S.cls.ok (S.cls.at_ "ordered" (by (first | kernel_rfl | decide +kernel))).1 ho) (Itr.lst .lst) (List.nil_sublist _)) (.inl (by rfl)) ⟨rfl, by rfl, by rfl⟩ ?_ ?_)
  · rintro i d hd ρ' own' ⟨rfl, h1, h2⟩
    obtain ⟨y, hy, rfl⟩ : ∃ y ∈ xs, d = .str y := by
      rw [List.getElem?_map] at hd
      obtain ⟨y, e1, e2⟩ := Option.map_eq_some_iff.mp hd
      exact ⟨y, List.mem_of_getElem? e1, e2.symm⟩
    obtain ⟨l, hl, rfl⟩ := List.mem_map.mp (hx y hy)
    exact Sx.cons (S1.forNil (Src.of (Ev.sub (Ev.sub (Ev.attr X₀ (Ev.name (d := .raw (.ref x)) h1) isI S.cls.ok (S.cls.at_ "entries" (by (first | kernel_rfl | decide +kernel))).1 he) (Ev.name (d := .str l.name) (by rfl)) (Op2.subDct .dct (look_entV hQ.nd hl))) Ev.constInt (Op2.subTup (d := .tup []) (by decide) (by rfl))) Itr.tup (List.nil_sublist _)) (Sx.nil ⟨rfl, h1, h2⟩))
  · rintro ρ' own' ⟨rfl, h1, h2⟩
    exact Sx.cons (S1.retL (Ev.name h2) ha1 ⟨[(dx, .attrs x C fs)], [], rfl, rfl, rfl, rfl⟩)

theorem lookf_fc {C f x dx : Addr} {fs : List (Str × V)} (Gv : Gl H mg mb) (X₀ : K.In H) (S : SigC H K mg C) (D : DefAt H f (mem 50 6)) (he : lookV fs "own_fields" = some (.lst [])) :
    Fr' w H (n + 1) (.ref f) [(dx, .attrs x C fs)] [.raw (.ref x)] (fun d o => d = .raw .none ∧ o = [(dx, .attrs x C fs)]) := by
  refine Fr'.enter Gv D P_sg_lookf rfl fun L q cd ok => ?_
  refine Sx.cons (S1.assignG (Eg.dict Gv fun a ha1 ha2 => ?_) (.inl (by rfl)))
  refine Sx.perm (List.Perm.swap _ _ _) ?_
  exact Sx.cons (S1.forNil (Src.of (Ev.attr X₀ (Ev.name (d := .raw (.ref x)) (by rfl)) (.own (.head _)) S.cls.ok (S.cls.at_ "own_fields" (by (first | kernel_rfl | decide +kernel))).1 he) (Itr.lst .lst) (List.nil_sublist _)) (Sx.nil ⟨[(dx, .attrs x C fs)], [(a, .dict [])], rfl, rfl, rfl, rfl⟩))
end
end Mine
end
section
open PySem PySem.W PyProof.Rows PySem.MeetsSeq PySem.SeqAt
set_option maxRecDepth 100000
namespace Mine

noncomputable def dirQ (Q : List Lab) (x : Str) : List Str := match findL Q x with
  | some l => dirOf l
  | none => []
noncomputable def ableQ (Q : List Lab) (fnd : List Str) (x : Str) : Bool := (dirQ Q x).all fun z => fnd.contains z
noncomputable def ableV (Q : List Lab) (fnd : List Str) : V → Bool
  | .str x => ableQ Q fnd x
  | _ => false
noncomputable def outV (fnd : List Str) : V → Bool
  | .str x => !fnd.contains x
  | _ => false
theorem filter_out {fnd : List Str} : ∀ {xs : List Str}, ((xs.map V.str).filter (outV fnd)).isEmpty = xs.all fun z => fnd.contains z
  | [] => rfl
  | x :: xs => by
    rw [List.map_cons, List.filter_cons, List.all_cons]
    show (if (!fnd.contains x) = true then _ else _ : List V).isEmpty = _
    cases h : fnd.contains x
    · simp
    · simpa using filter_out (xs := xs)
theorem filter_able {Q : List Lab} {fnd : List Str} : ∀ {xs : List Str}, (xs.map V.str).filter (ableV Q fnd) = (xs.filter (ableQ Q fnd)).map .str
  | [] => rfl
  | x :: xs => by
    rw [List.map_cons, List.filter_cons, List.filter_cons, filter_able (xs := xs)]
    show (if ableQ Q fnd x = true then _ else _ : List V) = _
    cases ableQ Q fnd x <;> rfl

theorem least {r : Str → Nat} : ∀ {xs : List Str}, xs ≠ [] → ∃ x ∈ xs, ∀ y ∈ xs, r x ≤ r y
  | [x], _ => ⟨x, .head _, fun y hy => by rw [List.mem_singleton.mp hy]; exact Nat.le_refl _⟩
  | x :: y :: xs, _ => by
    obtain ⟨z, hz, h⟩ := least (r := r) (xs := y :: xs) (by simp)
    by_cases hc : r x ≤ r z
    · exact ⟨x, .head _, fun u hu => by
        rcases List.mem_cons.mp hu with rfl | hu
        · exact Nat.le_refl _
        · exact Nat.le_trans hc (h u hu)⟩
    · exact ⟨z, .tail _ hz, fun u hu => by
        rcases List.mem_cons.mp hu with rfl | hu
        · (first | assumption | exact Nat.le_of_ble_eq_true rfl | exact Nat.add_le_add_left (Nat.le_of_ble_eq_true rfl) _ | exact Nat.le_trans (by assumption) (Nat.le_of_ble_eq_true rfl) | lia | omega)
        · exact h u hu⟩

theorem able_ne {Q : List Lab} (hQ : QOk Q) {fnd rest : List Str} (hm : ∀ y, y ∈ names Q → y ∈ fnd ∨ y ∈ rest) (hr : ∀ y ∈ rest, y ∈ names Q) (h0 : rest ≠ []) : rest.filter (ableQ Q fnd) ≠ [] := by
  obtain ⟨r, hrk⟩ := hQ.rank
  obtain ⟨x, hx, hl⟩ := least (r := r) h0
  intro he
  have := List.filter_eq_nil_iff.mp he x hx
  apply this
  unfold ableQ dirQ
  obtain ⟨l, hl', e⟩ := List.mem_map.mp (hr x hx)
  have hf : findL Q x = some l := by rw [← e]; exact findL_mem hQ.nd hl'
  rw [hf]
  rw [List.all_eq_true]
  intro z hz
  have h1 := hrk l hl' z hz
  rw [List.contains_iff_mem]
  rcases hm z (hQ.dir hl' z hz) with h | h
  · exact h
  · have e' : l.name = x := e
    have := hl z h
    rw [e'] at h1; (first | assumption | exact Nat.le_of_ble_eq_true rfl | exact Nat.add_le_add_left (Nat.le_of_ble_eq_true rfl) _ | exact Nat.le_trans (by assumption) (Nat.le_of_ble_eq_true rfl) | lia | omega)

section
variable {w : World} {H Z : Heap} {n : Nat} {pk : List Addr} {env : Env} {ρ ρc : Names} {o₀ o₁ o₂ o₃ own own₁ own₂ F : Own} {N : Names → Own → Prop} {R : V → Own → Prop} {sts : List Stmt} {st : Stmt} {mg mb : Str → Option Value} {K : Frag}

noncomputable abbrev IFi (a dx x C c : Addr) (fs : List (Str × V)) (Q : List Lab) : Nat → Names → Own → Prop := fun k ρ' own' => ∃ fnd rest : List Str, own' = [(a, .list (fnd.map .str)), (dx, .attrs x C fs), (c, .list (rest.map .str))] ∧ rest.length = k ∧ (∀ y, y ∈ names Q → y ∈ fnd ∨ y ∈ rest) ∧ (∀ y ∈ rest, y ∈ names Q) ∧ (∀ y ∈ fnd, y ∈ names Q) ∧ fnd.length + rest.length = Q.length ∧ ρ' "self" = some (.raw (.ref x)) ∧ ρ' "rest" = some (.raw (.ref c)) ∧ ρ' "found" = some (.raw (.ref a))
noncomputable abbrev GFi (dx x C : Addr) (fs : List (Str × V)) (Q : List Lab) : V → Own → Prop := fun d o => ∃ xs : List Str, d = .lst (xs.map .str) ∧ (∀ y ∈ xs, y ∈ names Q) ∧ xs.length ≤ 10 ∧ o = [(dx, .attrs x C fs)]
theorem first_fc {C f x dx : Addr} {fs : List (Str × V)} {Q : List Lab} (Gv : Gl H mg mb) (Bl : Blts mg mb) (X₀ : K.In H) (S : SigC H K mg C) (D : DefAt H f (mem 50 4)) (hQ : QOk Q) (he : lookV fs "entries" = some (.dct (entV Q))) (hst : lookV fs "stands" = some (.lst ((names Q).map .str))) (hf : lookV fs "parent" = none ∧ lookV fs "supers" = none ∧ lookV fs "direct" = none) :
    Fr' w H (n + 3) (.ref f) [(dx, .attrs x C fs)] [.raw (.ref x)] (GFi dx x C fs Q) := by
  obtain ⟨fd, Md⟩ := S.direct
  have hsN : SigOk [] (.ins C fs) C fs (.dct (entV Q)) Q := ⟨.inl rfl, he, rfl, .dct, hQ.nd⟩
  refine Fr'.enter (n := n + 2) Gv D P_sg_first rfl fun L q cd ok => ?_
  refine Sx.cons (S1.tupN (l := [("found", _), ("rest", _)]) (Eg.tuple (Egs.cons (Eg.list fun a ha1 ha2 => Egs.cons (Eg.listNew (ds := (names Q).map .str) (Ev.blt Gv (by rfl) Bl.list.1 Bl.list.2) (Es.cons (Ev.attr X₀ (Ev.name (d := .raw (.ref x)) (by rfl)) (AsI.own (dx := dx) (.tail _ (.head _))) S.cls.ok (S.cls.at_ "stands" (by (first | kernel_rfl | decide +kernel))).1 hst) Es.nil) .lst (by rw [List.length_map, List.length_map]; have := hQ.len; (first | assumption | exact Nat.le_of_ble_eq_true rfl | exact Nat.add_le_add_left (Nat.le_of_ble_eq_true rfl) _ | exact Nat.le_trans (by assumption) (Nat.le_of_ble_eq_true rfl) | lia | omega)) fun c hc1 hc2 => Egs.nil ⟨by simp, _, rfl, rfl, ?_⟩)))) (fun p hp => by
    simp only [List.mem_cons, List.not_mem_nil, or_false] at hp
    rcases hp with rfl | rfl
    · exact .inr ⟨by rfl, by rfl⟩
    · exact .inl (by rfl)))
  change Sx w H (n + 2) [dx] _ _ (upd (upd (argsρ ["self"] [.raw (.ref x)]) "found" (.raw (.ref a))) "rest" (.raw (.ref c))) _ _ _
  have hca : c ≠ a := fun e => hc2 (by rw [e]; exact .head _)
  refine Sx.perm (own₁ := [(a, .list []), (dx, .attrs x C fs), (c, .list ((names Q).map .str))]) (List.perm_append_comm (l₁ := [(c, O.list ((names Q).map .str))]) (l₂ := [(a, O.list []), (dx, .attrs x C fs)])) ?_
  refine Sx.cons (S1.while (IFi a dx x C c fs Q)
    Q.length ⟨[], names Q, rfl, by simp, fun y hy => .inr hy, fun y hy => hy, fun y hy => by simp at hy, by simp, by rfl, by rfl, by rfl⟩ ?_)
  rintro k ρ' own' ⟨fnd, rest, rfl, hk, hm, hr, hfn, hlen, h1, h2, h3⟩
  have hQl := hQ.len
  have oC : (c, O.list (rest.map .str)) ∈ [(a, O.list (fnd.map .str)), (dx, .attrs x C fs), (c, .list (rest.map .str))] := .tail _ (.tail _ (.head _))
  have oD : (dx, O.attrs x C fs) ∈ [(a, O.list (fnd.map .str)), (dx, .attrs x C fs), (c, .list (rest.map .str))] := .tail _ (.head _)
  refine ⟨decide (0 < rest.length), _, Te.cast (Te.cmp (Ev.call (o₁ := [(a, .list (fnd.map .str)), (dx, .attrs x C fs), (c, .list (rest.map .str))]) (o₂ := [(a, .list (fnd.map .str)), (dx, .attrs x C fs), (c, .list (rest.map .str))]) (o₃ := [(a, .list (fnd.map .str)), (dx, .attrs x C fs), (c, .list (rest.map .str))]) (r := []) (Ev.blt Gv (by rfl) Bl.len.1 Bl.len.2) (Es.cons (Ev.name h2) Es.nil) (.builtin _) (Fn.lenL (.own oC) (by rw [List.length_map]; (first | assumption | exact Nat.le_of_ble_eq_true rfl | exact Nat.add_le_add_left (Nat.le_of_ble_eq_true rfl) _ | exact Nat.le_trans (by assumption) (Nat.le_of_ble_eq_true rfl) | lia | omega)))) Ev.constInt Op2.gtInt) ?_, fun hq => ?_, fun hq => ?_⟩
  · rw [List.length_map, Bool.eq_iff_iff, decide_eq_true_iff, decide_eq_true_iff]; (first | assumption | exact Nat.le_of_ble_eq_true rfl | exact Nat.add_le_add_left (Nat.le_of_ble_eq_true rfl) _ | exact Nat.le_trans (by assumption) (Nat.le_of_ble_eq_true rfl) | lia | omega)
  · have h0 : rest ≠ [] := List.length_pos_iff.mp (of_decide_eq_true hq)
    have hne := able_ne hQ hm hr h0
    refine Sx.cons (S1.assignComp (F := [(a, .list (fnd.map .str)), (dx, .attrs x C fs), (c, .list (rest.map .str))]) (x := "name") (Src.of (Ev.name h2) (Itr.lst (.own oC)) (List.Sublist.refl _)) (List.Sublist.refl _) (p := ableV Q fnd) (f := id) (ρc := capρ [("found", .lst (fnd.map .str)), ("self", .ins C fs)])
      ⟨CompOk.of (by (first | kernel_rfl | decide +kernel)), by rw [List.length_map]; (first | assumption | exact Nat.le_of_ble_eq_true rfl | exact Nat.add_le_add_left (Nat.le_of_ble_eq_true rfl) _ | exact Nat.le_trans (by assumption) (Nat.le_of_ble_eq_true rfl) | lia | omega), CapL.cap (.cons (by (first | kernel_rfl | decide +kernel)) (by rfl) h3 (Fzd.lst (.own (.head _))) (.cons (by (first | kernel_rfl | decide +kernel)) (by rfl) h1 (Fzd.ins (.own oD)) .nil)), .inr (fun d hd => ?_), fun C' okc d hd => ?_, fun C' okc d hd _ => Ev.name (by rfl)⟩ (.inl (by rfl)) ?_)
    · rw [List.map_id, filter_able] at hd
      obtain ⟨y, _, rfl⟩ := List.mem_map.mp hd
      rfl
    · obtain ⟨y, hy, rfl⟩ := List.mem_map.mp hd
      obtain ⟨l, hl, rfl⟩ := List.mem_map.mp (hr y hy)
      have e : ableV Q fnd (.str l.name) = ((((dirOf l).map V.str).filter (outV fnd)).map id).isEmpty := by
        rw [List.map_id, filter_out]
        show ableQ Q fnd l.name = _
        unfold ableQ dirQ
        rw [findL_mem hQ.nd hl]
      rw [e]
      refine Tst.one (Te.cmp (Ev.comp (F := []) (x := "other") (Src.of (Ev.methO X₀ (Ev.name (d := .ins C fs) (by rfl)) .ins S.cls.ok Md hf.2.2 (Es.cons (Ev.name (d := .str l.name) (by rfl)) Es.nil) (direct_fn (n := n) Gv Bl X₀ S Md.at_ hsN hl (hQ.pl l hl) hf.1 hf.2.1)) Itr.tup (List.nil_sublist _)) (List.nil_sublist _) (p := outV fnd) (f := id) (ρc := capρ [("found", .lst (fnd.map .str))])
        ⟨CompOk.nest (by (first | kernel_rfl | decide +kernel)), ?_, CapL.cap (.cons (by (first | kernel_rfl | decide +kernel)) (by rfl) (by rfl) Fzd.same .nil), .inl rfl, fun C'' okc' d hd => ?_, fun C'' okc' d hd _ => Ev.name (by rfl)⟩) (Ev.list Es.nil) (Op2.eqLstNil .lst))
      · have := hQ.pl l hl
        rw [List.length_map, List.length_append]
        split <;> simp <;> (first | assumption | exact Nat.le_of_ble_eq_true rfl | exact Nat.add_le_add_left (Nat.le_of_ble_eq_true rfl) _ | exact Nat.le_trans (by assumption) (Nat.le_of_ble_eq_true rfl) | lia | omega)
      · obtain ⟨z, hz, rfl⟩ := List.mem_map.mp hd
        exact Tst.one (Te.cmp (Ev.name (d := .str z) (by rfl)) (Ev.name (d := .lst (fnd.map .str)) (by rfl)) (Op2.notInLstStr .lst))
    · rw [List.map_id, filter_able]
      obtain ⟨y0, ys, hys⟩ : ∃ y0 ys, rest.filter (ableQ Q fnd) = y0 :: ys := by
        cases hc : rest.filter (ableQ Q fnd) with
        | nil => exact absurd hc hne
        | cons y ys => exact ⟨y, ys, rfl⟩
      have hy0 : y0 ∈ rest := (List.mem_filter.mp (by rw [hys]; exact .head _)).1
      have hysl : (y0 :: ys).length ≤ rest.length := by rw [← hys]; exact List.length_filter_le _ _
      rw [hys]
      refine Sx.cons (S1.skip (Te.cast (Te.cmp (Ev.call (o₁ := []) (o₂ := []) (o₃ := []) (r := [(a, .list (fnd.map .str)), (dx, .attrs x C fs), (c, .list (rest.map .str))]) (Ev.blt Gv (by rfl) Bl.len.1 Bl.len.2) (Es.cons (Ev.name (d := .lst ((y0 :: ys).map .str)) (by rfl)) Es.nil) (.builtin _) (Fn.lenL .lst (by rw [List.length_map]; (first | assumption | exact Nat.le_of_ble_eq_true rfl | exact Nat.add_le_add_left (Nat.le_of_ble_eq_true rfl) _ | exact Nat.le_trans (by assumption) (Nat.le_of_ble_eq_true rfl) | lia | omega)))) Ev.constInt Op2.eqInt) ?_) ?_)
      · simp only [List.map_cons, List.length_cons]
        rw [beq_eq_false_iff_ne]; (first | assumption | exact Nat.le_of_ble_eq_true rfl | exact Nat.add_le_add_left (Nat.le_of_ble_eq_true rfl) _ | exact Nat.le_trans (by assumption) (Nat.le_of_ble_eq_true rfl) | lia | omega)
      refine Sx.cons (S1.append (l := []) (r := [(dx, .attrs x C fs), (c, .list (rest.map .str))]) (ds := fnd.map .str) (d := .str y0) (Ev.name h3) (.head _) (Ev.sub (Ev.name (d := .lst ((y0 :: ys).map .str)) (by rfl)) Ev.constInt (Op2.subLst .lst (by decide) (by rfl))) (by rw [List.length_map]; (first | assumption | exact Nat.le_of_ble_eq_true rfl | exact Nat.add_le_add_left (Nat.le_of_ble_eq_true rfl) _ | exact Nat.le_trans (by assumption) (Nat.le_of_ble_eq_true rfl) | lia | omega)) ?_)
      refine Sx.cons (S1.remove (l := [(a, .list (fnd.map .str ++ [.str y0])), (dx, .attrs x C fs)]) (r := []) (xs := rest) (y := y0) (Ev.name h2) (.tail _ (.tail _ (.head _))) (Ev.sub (Ev.name (d := .lst ((y0 :: ys).map .str)) (by rfl)) Ev.constInt (Op2.subLst .lst (by decide) (by rfl))) hy0 (by (first | assumption | exact Nat.le_of_ble_eq_true rfl | exact Nat.add_le_add_left (Nat.le_of_ble_eq_true rfl) _ | exact Nat.le_trans (by assumption) (Nat.le_of_ble_eq_true rfl) | lia | omega)) (Sx.nil ?_))
      have hel : (rest.erase y0).length = rest.length - 1 := List.length_erase_of_mem hy0
      have hpos : 0 < rest.length := List.length_pos_iff.mpr h0
      refine ⟨rest.length - 1, by (first | assumption | exact Nat.le_of_ble_eq_true rfl | exact Nat.add_le_add_left (Nat.le_of_ble_eq_true rfl) _ | exact Nat.le_trans (by assumption) (Nat.le_of_ble_eq_true rfl) | lia | omega), fnd ++ [y0], rest.erase y0, by simp, hel, fun y hy => ?_, fun y hy => hr y (List.mem_of_mem_erase hy), fun y hy => ?_, by simp; (first | assumption | exact Nat.le_of_ble_eq_true rfl | exact Nat.add_le_add_left (Nat.le_of_ble_eq_true rfl) _ | exact Nat.le_trans (by assumption) (Nat.le_of_ble_eq_true rfl) | lia | omega), h1, h2, h3⟩
      · rcases hm y hy with h | h
        · exact .inl (List.mem_append_left _ h)
        · by_cases e : y = y0
          · exact .inl (List.mem_append_right _ (by rw [e]; exact .head _))
          · exact .inr ((List.mem_erase_of_ne e).mpr h)
      · rcases List.mem_append.mp hy with h | h
        · exact hfn y h
        · rw [List.mem_singleton.mp h]; exact hr y0 hy0
  · have h0 : rest = [] := List.length_eq_zero_iff.mp (by have := of_decide_eq_false hq; (first | assumption | exact Nat.le_of_ble_eq_true rfl | exact Nat.add_le_add_left (Nat.le_of_ble_eq_true rfl) _ | exact Nat.le_trans (by assumption) (Nat.le_of_ble_eq_true rfl) | lia | omega))
    subst h0
    exact Sx.cons (S1.retL (Ev.name h3) ha1 ⟨[(dx, .attrs x C fs)], [(c, .list [])], rfl, rfl, fnd, rfl, hfn, by simp at hlen; (first | assumption | exact Nat.le_of_ble_eq_true rfl | exact Nat.add_le_add_left (Nat.le_of_ble_eq_true rfl) _ | exact Nat.le_trans (by assumption) (Nat.le_of_ble_eq_true rfl) | lia | omega), rfl⟩)
end
end Mine
end
section
open PySem PySem.W PyProof.Rows PySem.MeetsSeq PySem.SeqAt
set_option maxRecDepth 100000
namespace Mine

section
variable {w : World} {H Z : Heap} {n : Nat} {pk : List Addr} {env : Env} {ρ ρc : Names} {o₀ o₁ o₂ o₃ own own₁ own₂ F : Own} {N : Names → Own → Prop} {R : V → Own → Prop} {sts : List Stmt} {st : Stmt} {mg mb : Str → Option Value} {K : Frag}

theorem Eg.methO {K : Frag} {o : Expr} {args : List Expr} {name : Str} {apos pos : Pos} {a : V} {C f : Addr} {fs : List (Str × V)} {ds : List V} {dd : Arguments × List Stmt × Scope} {G : V → Own → Prop} (X : K.In H) (x : Ev w H n env ρ own o a own) (hi : AsI own a C fs) (hC : ClsOk K C)
    (M : MethAt H K C name dd f) (hl : lookV fs name = none)
    (y : Es w H n env ρ own args ds own) (h : Fr' w H n (.ref f) own (a :: ds) G)
    (hp : ∀ pos, (backTo pos (starEach args env)).any (·.1) = false := by intro _; rfl)
    (he : ∃ pl, eval (.Call (.Attribute o name apos) args [] pos) env = (do
      let ov ← eval o env
      standAt apos.atName
      let (f, first) ← holding [ov] (getMethod ov name pl)
      callWith pos f first (backTo pos (starEach args env)) (backToKw pos (keywordEach [] env))) := by exact ⟨_, rfl⟩) : Eg w H n pk env (.Call (.Attribute o name apos) args [] pos) ρ own G := by
  obtain ⟨ob, fd, k1, k2, k3⟩ := M.obj
  exact Eg.meth (o₁ := own) (o₂ := own) (r := []) X (by rw [List.append_nil]; exact x) (by rw [List.append_nil]; exact hi) hC M.find k1 k2 k3 hl (by rw [List.append_nil]; exact y) (Fr'.mono h fun d o g => by rw [List.append_nil]; exact g) hp he

noncomputable def fs4 (Q : List Lab) (xs : List Str) : List (Str × V) := [("entries", .dct (entV Q)), ("stands", .lst ((names Q).map .str)), ("opened", .lst []), ("ordered", .lst (xs.map .str)), ("own_fields", .lst [])]

theorem siginit_fc {C f x dx : Addr} {Q : List Lab} (Gv : Gl H mg mb) (Bl : Blts mg mb) (X₀ : K.In H) (S : SigC H K mg C) (D : DefAt H f (mem 50 0)) (hQ : QOk Q) :
    Fc w H (n + 5) (.ref f) [(dx, .attrs x C [])] [.raw (.ref x), .lst (Q.map itemV)] (fun d o => d = .raw .none ∧ ∃ xs, o = [(dx, .attrs x C (fs4 Q xs))]) := by
  obtain ⟨ft, Mt⟩ := S.take_sig
  obtain ⟨fl, Ml⟩ := S.look_above
  obtain ⟨fp, Mp⟩ := S.parents_first
  obtain ⟨fa, Ma⟩ := S.all_fields
  obtain ⟨fk, Mk⟩ := S.look_fields
  have hQl := hQ.len
  refine Fc.enter (n := n + 4) Gv D P_sg_init rfl fun L q cd ok => ?_
  refine Sx.cons (S1.setAttr X₀ S.cls.set (S.cls.at_ "entries" (by (first | kernel_rfl | decide +kernel))).2 (Eg.dict Gv fun e he1 he2 => ⟨x, dx, [], [(e, .dict [])], [], Ev.name (by rfl), by simp, ?_⟩))
  refine Sx.perm (List.Perm.swap _ _ _) ?_
  refine Sx.cons (S1.setAttr X₀ S.cls.set (S.cls.at_ "stands" (by (first | kernel_rfl | decide +kernel))).2 (Eg.list fun st hs1 hs2 => ⟨x, dx, _, [(st, .list [])], [(e, .dict [])], Ev.name (by rfl), Nat.le_of_ble_eq_true (by rfl), ?_⟩))
  refine Sx.perm (List.perm_append_comm (l₁ := [(st, O.list [])]) (l₂ := [(dx, _), (e, .dict [])])) ?_
  refine Sx.cons (S1.setAttr X₀ S.cls.set (S.cls.at_ "opened" (by (first | kernel_rfl | decide +kernel))).2 (Eg.list fun op ho1 ho2 => ⟨x, dx, _, [(op, .list [])], [(e, .dict []), (st, .list [])], Ev.name (by rfl), Nat.le_of_ble_eq_true (by rfl), ?_⟩))
  refine Sx.perm (List.Perm.swap _ _ _) ?_
  refine Sx.freezeAttr (fs' := fs1 e st) ho1 (.list) (.same (.same (.here .nil))) ?_
  change Sx w H (n + 4) [dx] _ _ (argsρ ["self", "items"] [.raw (.ref x), .lst (Q.map itemV)]) [(dx, .attrs x C (fs1 e st)), (e, .dict (entV [])), (st, .list ((names ([] : List Lab)).map .str))] _ _
  refine Sx.cons (S1.for (ds := Q.map itemV) (fun i ρ' own' => ρ' "self" = some (.raw (.ref x)) ∧ ρ' "items" = some (.lst (Q.map itemV)) ∧ own' = [(dx, .attrs x C (fs1 e st)), (e, .dict (entV (Q.take i))), (st, .list ((names (Q.take i)).map .str))])
    (Src.of (Ev.name (d := .lst (Q.map itemV)) (by rfl)) (Itr.lst .lst) (List.nil_sublist _)) (.inl (by rfl)) ⟨by rfl, by rfl, rfl⟩ ?_ ?_)
  · rintro i d hd ρ' own' ⟨h1, h2, rfl⟩
    obtain ⟨l, hl, rfl⟩ : ∃ l, Q[i]? = some l ∧ d = itemV l := by
      rw [List.getElem?_map] at hd
      obtain ⟨y, e1, e2⟩ := Option.map_eq_some_iff.mp hd
      exact ⟨y, e1, e2.symm⟩
    have hlm : l ∈ Q := List.mem_of_getElem? hl
    have htake : Q.take (i + 1) = Q.take i ++ [l] := by rw [List.take_add_one, hl]; rfl
    have hnew : l.name ∉ names (Q.take i) := by
      have hnd := hQ.nd
      have e0 : names Q = names (Q.take (i + 1)) ++ names (Q.drop (i + 1)) := by rw [← List.map_append, List.take_append_drop]
      rw [e0, htake] at hnd
      have h3 := (List.nodup_append.mp hnd).1
      rw [names, List.map_append] at h3
      intro hm
      exact (List.nodup_append.mp h3).2.2 _ hm _ (.head _) rfl
    refine Sx.cons (S1.iteT (Te.cast (Te.cmp (Ev.sub (Ev.name (d := itemV l) (by rfl)) Ev.constInt (Op2.subTup (d := .str "sig") (by decide) (by rfl))) Ev.constStr Op2.eqStr) (by (first | kernel_rfl | decide +kernel))) (Sx.cons (S1.expr (Eg.methO X₀ (Ev.name h1) (AsI.own (dx := dx) (.head _)) S.cls.ok Mt (by rfl) (Es.cons (Ev.name (d := itemV l) (by rfl)) Es.nil) (Fr'.mono ((take_fc (n := n) (e := e) (st := st) Gv Bl X₀ S Mt.at_ hnew (hQ.ap l hlm) (by rw [List.length_take]; (first | assumption | exact Nat.le_of_ble_eq_true rfl | exact Nat.add_le_add_left (Nat.le_of_ble_eq_true rfl) _ | exact Nat.le_trans (by assumption) (Nat.le_of_ble_eq_true rfl) | lia | omega)) (hQ.pl l hlm)).le (by (first | assumption | exact Nat.le_of_ble_eq_true rfl | exact Nat.add_le_add_left (Nat.le_of_ble_eq_true rfl) _ | exact Nat.le_trans (by assumption) (Nat.le_of_ble_eq_true rfl) | lia | omega))) fun d o ⟨g1, g2⟩ => Sx.nil (Sx.nil ⟨h1, h2, ?_⟩))))))
    rw [g2, htake]
  · rintro ρ1 own1 ⟨h1, h2, rfl⟩
    rw [List.length_map, List.take_length]
    refine Sx.freezeAttr (d := .dct (entV Q)) (fs' := [("entries", .dct (entV Q)), ("stands", .raw (.ref st)), ("opened", .lst [])]) he1 (.dict) (.here (.same (.same .nil))) ?_
    refine Sx.freezeAttr (d := .lst ((names Q).map .str)) (fs' := fs2 Q) hs1 (.list) (.same (.here (.same .nil))) ?_
    have hs2 : SigOk [(dx, .attrs x C (fs2 Q))] (.raw (.ref x)) C (fs2 Q) (.dct (entV Q)) Q := ⟨.own (.head _), by rfl, rfl, .dct, hQ.nd⟩
    refine Sx.cons (S1.for (ds := (names Q).map .str) (fun i ρ' own' => ρ' "self" = some (.raw (.ref x)) ∧ ρ' "items" = some (.lst (Q.map itemV)) ∧ own' = [(dx, .attrs x C (fs2 Q))])
      (Src.of (Ev.attr X₀ (Ev.name h1) (AsI.own (dx := dx) (.head _)) S.cls.ok (S.cls.at_ "stands" (by (first | kernel_rfl | decide +kernel))).1 (d := .lst ((names Q).map .str)) (by rfl)) (Itr.lst .lst) (List.nil_sublist _)) (.inl (by rfl)) ⟨h1, h2, rfl⟩ ?_ ?_)
    · rintro i d hd ρ' own' ⟨h1, h2, rfl⟩
      obtain ⟨l, hl, rfl⟩ : ∃ l ∈ Q, d = .str l.name := by
        rw [List.getElem?_map] at hd
        obtain ⟨y, e1, e2⟩ := Option.map_eq_some_iff.mp hd
        obtain ⟨l, hl, e3⟩ := List.mem_map.mp (List.mem_of_getElem? e1)
        exact ⟨l, hl, by rw [← e2, ← e3]⟩
      exact Sx.cons (S1.expr (Eg.of (Ev.methO X₀ (Ev.name h1) hs2.isI S.cls.ok Ml (by rfl) (Es.cons (Ev.name (d := .str l.name) (by rfl)) Es.nil) ((above_fn (n := n) Gv Bl X₀ S Ml.at_ hQ hs2 hl ⟨by rfl, by rfl, by rfl, by rfl⟩).le (by (first | assumption | exact Nat.le_of_ble_eq_true rfl | exact Nat.add_le_add_left (Nat.le_of_ble_eq_true rfl) _ | exact Nat.le_trans (by assumption) (Nat.le_of_ble_eq_true rfl) | lia | omega)))) (Sx.nil ⟨h1, h2, rfl⟩)))
    · rintro ρ2 own2 ⟨h1, h2, rfl⟩
      refine Sx.cons (S1.setAttr X₀ S.cls.set (S.cls.at_ "ordered" (by (first | kernel_rfl | decide +kernel))).2 (Eg.methO X₀ (Ev.name h1) hs2.isI S.cls.ok Mp (by rfl) Es.nil (Fr'.mono ((first_fc (n := n) Gv Bl X₀ S Mp.at_ hQ (fs := fs2 Q) (by rfl) (by rfl) ⟨by rfl, by rfl, by rfl⟩).le (by (first | assumption | exact Nat.le_of_ble_eq_true rfl | exact Nat.add_le_add_left (Nat.le_of_ble_eq_true rfl) _ | exact Nat.le_trans (by assumption) (Nat.le_of_ble_eq_true rfl) | lia | omega))) fun d o ⟨xs, g1, g2, g3, g4⟩ => ?_)))
      subst g1 g4
      refine ⟨x, dx, fs2 Q, [], [], Ev.name h1, Nat.le_of_ble_eq_true (by rfl), ?_⟩
      change Sx w H (n + 4) [dx] _ _ ρ2 [(dx, .attrs x C [("entries", .dct (entV Q)), ("stands", .lst ((names Q).map .str)), ("opened", .lst []), ("ordered", .lst (xs.map .str))])] _ _
      refine Sx.cons (S1.setAttr X₀ S.cls.set (S.cls.at_ "own_fields" (by (first | kernel_rfl | decide +kernel))).2 (Eg.methO X₀ (Ev.name h1) (AsI.own (dx := dx) (.head _)) S.cls.ok Ma (by rfl) Es.nil (Fr'.mono ((fields_fc (n := n) (E := .int 0) (xs := xs) (Q := Q) Gv X₀ S Ma.at_ hQ (by rfl) (by rfl) g2).le (by (first | assumption | exact Nat.le_of_ble_eq_true rfl | exact Nat.add_le_add_left (Nat.le_of_ble_eq_true rfl) _ | exact Nat.le_trans (by assumption) (Nat.le_of_ble_eq_true rfl) | lia | omega))) fun d o ⟨g5, g6⟩ => ?_)))
      subst g5 g6
      refine ⟨x, dx, _, [], [], Ev.name h1, Nat.le_of_ble_eq_true (by rfl), ?_⟩
      change Sx w H (n + 4) [dx] _ _ ρ2 [(dx, .attrs x C (fs4 Q xs))] _ _
      refine Sx.cons (S1.expr (Eg.methO X₀ (Ev.name h1) (AsI.own (dx := dx) (.head _)) S.cls.ok Mk (by rfl) Es.nil (Fr'.mono ((lookf_fc (n := n) Gv X₀ S Mk.at_ (fs := fs4 Q xs) (by rfl)).le (by (first | assumption | exact Nat.le_of_ble_eq_true rfl | exact Nat.add_le_add_left (Nat.le_of_ble_eq_true rfl) _ | exact Nat.le_trans (by assumption) (Nat.le_of_ble_eq_true rfl) | lia | omega))) fun d o ⟨g7, g8⟩ => ?_)))
      subst g8
      refine Sx.cons (S1.for (ds := Q.map itemV) (fun i ρ' own' => ρ' "self" = some (.raw (.ref x)) ∧ own' = [(dx, .attrs x C (fs4 Q xs))])
        (Src.of (Ev.name h2) (Itr.lst .lst) (List.nil_sublist _)) (.inl (by rfl)) ⟨h1, rfl⟩ ?_ ?_)
      · rintro i d hd ρ' own' ⟨h1, rfl⟩
        obtain ⟨l, hl, rfl⟩ : ∃ l, Q[i]? = some l ∧ d = itemV l := by
          rw [List.getElem?_map] at hd
          obtain ⟨y, e1, e2⟩ := Option.map_eq_some_iff.mp hd
          exact ⟨y, e1, e2.symm⟩
        exact Sx.cons (S1.skip (Te.eqS (x := "sig") (Ev.sub (Ev.name (d := itemV l) (by rfl)) Ev.constInt (Op2.subTup (d := .str "sig") (by decide) (by rfl))) (by (first | kernel_rfl | decide +kernel))) (Sx.nil ⟨h1, rfl⟩))
      · rintro ρ' own' ⟨h1, rfl⟩
        exact Sx.nil ⟨_, [], (List.append_nil _).symm, rfl, rfl, xs, rfl⟩

noncomputable def sigV (C : Addr) (Q : List Lab) (xs : List Str) : V := .ins C (fs4 Q xs)
theorem signew_fr {C : Addr} {Q : List Lab} (Gv : Gl H mg mb) (Bl : Blts mg mb) (X₀ : K.In H) (S : SigC H K mg C) (hQ : QOk Q) :
    Fr' w H (n + 6) (.ref C) [] [.lst (Q.map itemV)] (fun d o => ∃ xs, d = sigV C Q xs ∧ o = []) := by
  obtain ⟨f, M⟩ := S.init
  obtain ⟨ob, fd, k1, k2, k3⟩ := M.obj
  exact Fr'.of (Fc.new X₀ S.makes M.find (by show (K.lookup f).map (·.cls) = _; rw [k1]; exact congrArg some k2) fun x dx => Fc.mono (siginit_fc (n := n) Gv Bl X₀ S M.at_ hQ) fun d o ⟨h1, xs, h2⟩ => ⟨h1, _, [], h2, xs, rfl, rfl⟩)
end
end Mine
end
section
open PySem PySem.W PyProof.Rows PySem.MeetsSeq PySem.SeqAt
set_option maxRecDepth 100000
namespace Mine

section
variable {w : World} {H Z : Heap} {n : Nat} {pk : List Addr} {env : Env} {ρ ρc : Names} {o₀ o₁ o₂ o₃ own own₁ own₂ F : Own} {N : Names → Own → Prop} {R : V → Own → Prop} {sts : List Stmt} {st : Stmt} {mg mb : Str → Option Value} {K : Frag}

noncomputable def opAttrs : List Str := ["signatures", "kinds", "items", "numbers", "calls", "count", "spent", "height", "peak"]
noncomputable def fsN (sg : V) (Q : List Lab) (nums : List (Str × V)) : List (Str × V) := [("signatures", sg), ("kinds", .raw .none), ("items", .lst (Q.map itemV)), ("numbers", .dct nums), ("calls", .dct []), ("count", .int 0)]
noncomputable def fsO (sg : V) (Q : List Lab) (nums : List (Str × V)) : List (Str × V) := [("signatures", sg), ("kinds", .raw .none), ("items", .lst (Q.map itemV)), ("numbers", .dct nums), ("calls", .dct []), ("count", .int 0), ("spent", .int 0), ("height", .int 0), ("peak", .int 0)]

theorem nminit_fc {C f x dx : Addr} {sg : V} {Q : List Lab} {nums : List (Str × V)} (Gv : Gl H mg mb) (X₀ : K.In H) (hI : InstCls K C opAttrs) (D : DefAt H f (mem 46 0)) (hQ : Q.length ≤ 1000) :
    Fc w H (n + 1) (.ref f) [(dx, .attrs x C [])] [.raw (.ref x), sg, .raw .none, .lst (Q.map itemV), .dct nums] (fun d o => d = .raw .none ∧ o = [(dx, .attrs x C (fsN sg Q nums))]) := by
  refine Fc.enter Gv D P_nm_init rfl fun L q cd ok => ?_
  refine Sx.cons (S1.setAttr X₀ hI.set (hI.at_ "signatures" (by (first | kernel_rfl | decide +kernel))).2 (Eg.of (Ev.name (d := sg) (by rfl)) ⟨x, dx, [], [], [], Ev.name (by rfl), by simp, ?_⟩))
  refine Sx.cons (S1.setAttr X₀ hI.set (hI.at_ "kinds" (by (first | kernel_rfl | decide +kernel))).2 (Eg.of (Ev.name (d := .raw .none) (by rfl)) ⟨x, dx, _, [], [], Ev.name (by rfl), Nat.le_of_ble_eq_true (by rfl), ?_⟩))
  refine Sx.cons (S1.setAttr X₀ hI.set (hI.at_ "items" (by (first | kernel_rfl | decide +kernel))).2 (Eg.of (Ev.name (d := .lst (Q.map itemV)) (by rfl)) ⟨x, dx, _, [], [], Ev.name (by rfl), Nat.le_of_ble_eq_true (by rfl), ?_⟩))
  refine Sx.cons (S1.setAttr X₀ hI.set (hI.at_ "numbers" (by (first | kernel_rfl | decide +kernel))).2 (Eg.of (Ev.name (d := .dct nums) (by rfl)) ⟨x, dx, _, [], [], Ev.name (by rfl), Nat.le_of_ble_eq_true (by rfl), ?_⟩))
  refine Sx.cons (S1.setAttr X₀ hI.set (hI.at_ "calls" (by (first | kernel_rfl | decide +kernel))).2 (Eg.dict Gv fun c hc1 hc2 => ⟨x, dx, _, [(c, .dict [])], [], Ev.name (by rfl), Nat.le_of_ble_eq_true (by rfl), ?_⟩))
  refine Sx.perm (List.Perm.swap _ _ _) ?_
  refine Sx.freezeAttr (d := .dct []) (fs' := [("signatures", sg), ("kinds", .raw .none), ("items", .lst (Q.map itemV)), ("numbers", .dct nums), ("calls", .dct [])]) hc1 .dict (.same (.same (.same (.same (.here .nil))))) ?_
  refine Sx.cons (S1.for (ds := Q.map itemV) (fun i ρ' own' => ρ' "self" = some (.raw (.ref x)) ∧ own' = [(dx, .attrs x C [("signatures", sg), ("kinds", .raw .none), ("items", .lst (Q.map itemV)), ("numbers", .dct nums), ("calls", .dct [])])])
    (Src.of (Ev.name (by rfl)) (Itr.lst .lst) (List.nil_sublist _)) (.inl (by rfl)) ⟨by rfl, rfl⟩ ?_ ?_)
  · rintro i d hd ρ' own' ⟨h1, rfl⟩
    obtain ⟨l, hl, rfl⟩ : ∃ l, Q[i]? = some l ∧ d = itemV l := by
      rw [List.getElem?_map] at hd
      obtain ⟨y, e1, e2⟩ := Option.map_eq_some_iff.mp hd
      exact ⟨y, e1, e2.symm⟩
    exact Sx.cons (S1.skip (Te.cast (Te.cmp (Ev.sub (Ev.name (d := itemV l) (by rfl)) Ev.constInt (Op2.subTup (d := .str "sig") (by decide) (by rfl))) (Ev.tuple (Es.cons Ev.constStr (Es.cons Ev.constStr Es.nil))) (Op2.inTupStr (xs := ["pred", "fun"]))) (by (first | kernel_rfl | decide +kernel))) (Sx.nil ⟨h1, rfl⟩))
  · rintro ρ' own' ⟨h1, rfl⟩
    refine Sx.cons (S1.setAttr X₀ hI.set (hI.at_ "count" (by (first | kernel_rfl | decide +kernel))).2 (Eg.of Ev.constInt ⟨x, dx, _, [], [], Ev.name h1, Nat.le_of_ble_eq_true (by rfl), ?_⟩))
    exact Sx.nil ⟨_, [], (List.append_nil _).symm, rfl, rfl, by rfl⟩

/-- the opener's class: its __init__ calls super() -/
structure OpAt (H : Heap) (K : Frag) (C f cc cda f2 : Addr) : Prop where
  cls : InstCls K C opAttrs
  makes : makesIn K C = true
  find : findIn K (.ref C) "__init__" = some (some (.ref f))
  fn : ∃ o fd, K.lookup f = some o ∧ o.cls = .type "function" ∧ o.data = .func fd ∧ codeIn K fd.code fd.qualname = true ∧ fd.body = .stmts (mem 47 0).2.1 ∧ fd.closure = [(("__class__" : Str), cc)] ∧ fd.globals = mainGlobals ∧ fd.builtins = builtinsNs ∧ fd.scope = (mem 47 0).2.2 ∧ fd.params = (mem 47 0).1 ∧ fd.defaults = .none ∧ fd.kwdefaults = .none ∧ fd.code = .ref cda
  cell : ∃ o, K.lookup cc = some o ∧ o.data = .cell (some (.ref C))
  code : ∃ oc vs file tf, K.lookup cda = some oc ∧ oc.data = .fields vs ∧ vs[2]? = some (.str file tf) ∧ ((Pg.main.file : Str) == file) = true
  kls : ∃ cd, clsIn K C = some cd
  sub : mroIn K C (.ref C) = some true
  sup : ks_superIn K C C "__init__" = some (some (.ref f2))
  fnI : fnIn K f2 = true
  ty2 : typeIn K (.ref f2) = some (.type "function")
  stat : nsIn K cStatics "thirdparty.any" = some none
  nm : DefAt H f2 (mem 46 0)

theorem Sta.tok {b₀ b : Heap} {s₀ s : Shared} (S : Sta w H env pk o₀ b₀ s₀ Z b s ρ own) (k : Nat) : Sta w H env pk o₀ b₀ s₀ Z b { s with toks := k } ρ own :=
  S.moved (wr := []) (h' := s.heap) (k := k) (fun _ _ _ e => e) fun _ h => nomatch h

/-- a state that only made things -/
theorem Sta.kept {b₀ b : Heap} {s₀ s s' : Shared} (S : Sta w H env pk o₀ b₀ s₀ Z b s ρ own) (k : Keeps s s') : Sta w H env pk o₀ b₀ s₀ Z b s' ρ own := by
  have k' : Le s.heap s'.heap := Keeps.le k
  obtain ⟨h', t', rfl, _⟩ := k
  exact S.moved (wr := []) (h' := h') (k := t') (fun a o _ e => k' a o e) fun _ h => nomatch h

/-- the state at env' (env but for its cells), the text at env -/
theorem raw_name {A : Around} {E : Value → Shared → Prop} {b : Heap} {s : Shared} {env' : Env} {x : Str} {p : Pos} {d : V} {Q : Value → Shared → Prop} (L : Loc w H env' b s.heap ρ own) (hl : env'.locals = env.locals) (hf : env.scope.kind = .function) (hk : env.kindOf x = some .local) (hk' : env'.kindOf x = some .local) (hx : ρ x = some d)
    (h : ∀ v, VR w b d v → Q v s) (hd : (x == ("__debug__" : Str)) = false := by (first | kernel_rfl | decide +kernel)) : wpAny (Md w) A (eval (.Name x p) env) Q E s := by
  obtain ⟨m, cm, Fr, hv⟩ := L.frm
  obtain ⟨v, h1, h2⟩ := hv x d hx
  unfold nameVal at h1
  rw [if_pos hk'] at h1
  exact wpAny_Name (wpAny_loadName_local hf hk (hl ▸ Fr.ns) h1 (h v h2)) hd

theorem raw_set {A : Around} {b₀ b : Heap} {s₀ s : Shared} {env' : Env} {name : Str} {p1 p2 p3 p4 : Pos} {i : Int} {k : Nat} {x dx C : Addr} {fs : List (Str × V)} {r : Own} (X : K.In H) (hI : InstCls K C opAttrs) (hn : opAttrs.contains name = true) (S : Sta w H env' pk o₀ b₀ s₀ Z b s ρ ((dx, .attrs x C fs) :: r)) (hl : env'.locals = env.locals) (hf : env.scope.kind = .function) (hk : env.kindOf "self" = some .local) (hk' : env'.kindOf "self" = some .local) (hx : ρ "self" = some (.raw (.ref x))) (hsz : fs.length ≤ 800)
    (hs : swapsWith (.Constant (.int i) k p3) (some (.Attribute (.Name "self" p1) name p2)) p4.line env = pure false) :
    wpAny (Md w) A (exec (.Assign [.Attribute (.Name "self" p1) name p2] (.Constant (.int i) k p3) p4) env) (fun f s' => f = .next ∧ Sta w H env' pk o₀ b₀ s₀ Z b s' ρ ((dx, .attrs x C (putV name (.int i) fs)) :: r)) NoE s := by
  refine plainObj_wpAny_Assign_Attribute (wpAny_Constant_int ?_) hs
  have S₁ := S.tok (s.toks + 1)
  refine raw_name S₁.loc hl hf hk hk' hx fun v rv => ?_
  cases rv
  obtain ⟨hxx, es, m, hq, hv, hlen'⟩ := S₁.loc.ow (dx, .attrs x C fs) (.head _)
  have X₂ : K.In s.heap := X.keeps (S₁.loc.base.trans S₁.loc.sub)
  have I : InstAt s.heap x (instObj C dx) C (some (dictOf es m)) := ⟨S₁.loc.sub _ _ hxx, rfl, rfl, hq⟩
  have hg : (getL name es).isSome = true := by
    cases e : lookV fs name with
    | none => rw [hv.miss e]; rfl
    | some d' => obtain ⟨v', h1, _⟩ := hv.find e; rw [h1]; rfl
  have hlen := hv.length
  refine set_plain (s := { s with toks := s.toks + 1 }) X₂ I hI.set.sa (osaD (s := { s with toks := s.toks + 1 + 1 }) X₂ I hq hI.set.po (hI.at_ name hn).2 hI.set.hd hg (Nat.le_trans putL_len (by rw [hlen]; (first | assumption | exact Nat.le_of_ble_eq_true rfl | exact Nat.add_le_add_left (Nat.le_of_ble_eq_true rfl) _ | exact Nat.le_trans (by assumption) (Nat.le_of_ble_eq_true rfl) | lia | omega))) fun h' hs' hq' => ?_)
  exact ⟨rfl, Sta.change (l := []) (O₂ := .attrs x C (putV name (.int i) fs)) (k := s.toks + 1 + 1 + 1) (S.tok (s.toks + 1 + 1)) hs' ⟨hxx, _, _, hq', hv.put (d := .int i) (by simp only [VR]; exact ⟨s.toks, rfl⟩), Nat.le_trans putL_len (by rw [hlen]; (first | assumption | exact Nat.le_of_ble_eq_true rfl | exact Nat.add_le_add_left (Nat.le_of_ble_eq_true rfl) _ | exact Nat.le_trans (by assumption) (Nat.le_of_ble_eq_true rfl) | lia | omega))⟩⟩
end
end Mine
end
section
open PySem PySem.W PyProof.Rows PySem.MeetsSeq PySem.SeqAt
set_option maxRecDepth 100000
namespace Mine

section
variable {w : World} {H Z : Heap} {n : Nat} {pk : List Addr} {env : Env} {ρ ρc : Names} {o₀ o₁ o₂ o₃ own own₁ own₂ F : Own} {N : Names → Own → Prop} {R : V → Own → Prop} {sts : List Stmt} {st : Stmt} {mg mb : Str → Option Value} {K : Frag}

noncomputable abbrev senv (L f cc cda : Addr) (q : Str) : Env := newEnv (mem 47 0).2.2 L mainGlobals [(("__class__" : Str), cc)] q (some f) (.ref cda) none builtinsNs
noncomputable abbrev senv' (L f cda : Addr) (q : Str) : Env := newEnv (mem 47 0).2.2 L mainGlobals [] q (some f) (.ref cda) none builtinsNs

theorem op_rest {A : Around} {b₀ b : Heap} {s₀ s : Shared} {L f cc cda x dx C : Addr} {q : Str} {sg : V} {Q : List Lab} {nums : List (Str × V)} (X₀ : K.In H) (hI : InstCls K C opAttrs) (hx : ρ "self" = some (.raw (.ref x)))
    (S : Sta w H (senv' L f cda q) pk o₀ b₀ s₀ Z b s ρ [(dx, .attrs x C (fsN sg Q nums))]) :
    wpAny (Md w) A (execs ((mem 47 0).2.1.drop 1) (senv L f cc cda q)) (fun fl s' => fl = .next ∧ Sta w H (senv' L f cda q) pk o₀ b₀ s₀ Z b s' ρ [(dx, .attrs x C (fsO sg Q nums))]) NoE s := by
  refine wpAny_execs_cons (wpAny_mono (raw_set (env := senv L f cc cda q) (env' := senv' L f cda q) (name := "spent") X₀ hI (by (first | kernel_rfl | decide +kernel)) S rfl rfl rfl rfl hx (Nat.le_of_ble_eq_true (by rfl)) (by rfl)) (fun fl s₁ ⟨e, S₁⟩ => ?_) fun _ _ e => e)
  subst e
  refine wpAny_execs_cons (wpAny_mono (raw_set (env := senv L f cc cda q) (env' := senv' L f cda q) (name := "height") X₀ hI (by (first | kernel_rfl | decide +kernel)) S₁ rfl rfl rfl rfl hx (Nat.le_of_ble_eq_true (by rfl)) (by rfl)) (fun fl s₂ ⟨e, S₂⟩ => ?_) fun _ _ e => e)
  subst e
  refine wpAny_execs_cons (wpAny_mono (raw_set (env := senv L f cc cda q) (env' := senv' L f cda q) (name := "peak") X₀ hI (by (first | kernel_rfl | decide +kernel)) S₂ rfl rfl rfl rfl hx (Nat.le_of_ble_eq_true (by rfl)) (by rfl)) (fun fl s₃ ⟨e, S₃⟩ => ?_) fun _ _ e => e)
  subst e
  exact wpAny_execs_nil ⟨rfl, S₃⟩

noncomputable def opPs : List Str := ["self", "signatures", "kinds", "items", "numbers"]
noncomputable def opDs (x : Addr) (sg : V) (Q : List Lab) (nums : List (Str × V)) : List V := [.raw (.ref x), sg, .raw .none, .lst (Q.map itemV), .dct nums]

theorem op_super {A : Around} {b₀ b : Heap} {s₀ s : Shared} {L f cc cda f2 x dx C : Addr} {q : Str} {sg : V} {Q : List Lab} {nums : List (Str × V)} {body : List Stmt} (Gv : Gl H mg mb) (Bl : Blts mg mb) (X₀ : K.In H) (O : OpAt H K C f cc cda f2) (hQ : Q.length ≤ 1000) (rm : Rm (n + 1) A)
    (S : Sta w H (senv' L f cda q) pk o₀ b₀ s₀ Z b s (argsρ opPs (opDs x sg Q nums)) [(dx, .attrs x C [])]) (st : Stmt) (hst : (mem 47 0).2.1[0]? = some st) :
    _root_.PySem.wpAt (Md w) A (.func body (senv L f cc cda q)) (exec st (senv L f cc cda q)) (fun fl s' => fl = .next ∧ ∃ b', Sta w H (senv' L f cda q) pk o₀ b₀ s₀ Z b' s' (argsρ opPs (opDs x sg Q nums)) [(dx, .attrs x C (fsN sg Q nums))]) NoE s := by
  cases hst
  obtain ⟨hh, g, d, t, os⟩ := s
  obtain ⟨o, fd, hf, hfc, hfd, hcode, hb, hclo, hgl, hbl, hsc, hp, hdf, hkd, hcda⟩ := O.fn
  obtain ⟨oc, hcell, hcd⟩ := O.cell
  obtain ⟨ok, vs, file, tf, hk, hkd', hvs, hfile⟩ := O.code
  obtain ⟨cdC, hC⟩ := O.kls
  have XX : K.In hh := X₀.keeps (S.loc.base.trans S.loc.sub)
  obtain ⟨hxx, es, m, hq, hv, hlen'⟩ := S.loc.ow (dx, .attrs x C []) (.head _)
  have I : InstAt hh x (instObj C dx) C (some (dictOf es m)) := ⟨S.loc.sub _ _ hxx, rfl, rfl, hq⟩
  obtain ⟨oC, hC1, hC2⟩ : ∃ oC, hh.get? C = some oC ∧ oC.data = .cls cdC := by
    unfold clsIn at hC
    split at hC
    · rename_i c d cd' sl ho
      cases hC
      exact ⟨_, XX _ _ ho, rfl⟩
    · cases hC
  refine ks_wpAt_Expr_any (ks_wpAt_MethodCall (ks_wpAt_super_base (env := senv L f cc cda q) rfl rfl (by (first | kernel_rfl | decide +kernel)) rfl (XX _ _ hf) hfd (by rw [hp]; rfl) rfl (XX _ _ hk) hkd' hvs hfile (by rfl) ?_))
  refine ks_loadName_global rfl rfl (Calls.loadGlobal_builtin (env := senv L f cc cda q) ((Gv.g.keeps S.loc.base).keeps S.loc.sub) Bl.super.1 ((Gv.b.keeps S.loc.base).keeps S.loc.sub) Bl.super.2 ⟨rfl, ?_⟩)
  refine wpAny_loadName_free rfl rfl rfl ⟨_, XX _ _ hcell, hcd⟩ ?_
  obtain ⟨m', cm, Fr, hnv⟩ := S.loc.frm
  have hself : m' "self" = some (.ref x) := by
    obtain ⟨v, h1, h2⟩ := hnv "self" (.raw (.ref x)) (by rfl)
    cases h2
    exact h1
  refine wpAny_loadName_local rfl rfl Fr.ns hself ?_
  refine ks_wpAny_isType_cls hC1 hC2 ⟨rfl, ?_⟩
  refine ks_wpAny_call_super hC1 hC2 I.at_ I.cls (fun c e => by cases e) (looks_mroIn XX O.sub) (fun h' e k => ?_)
  have S₂ := S.kept (s' := ⟨h', g, d, t, os⟩) ⟨h', t, rfl, k⟩
  have X₂ : K.In h' := XX.keeps k
  obtain ⟨of, hof, hofc⟩ : ∃ of, h'.get? f2 = some of ∧ of.cls = .type "function" := by
    have ht' : (K.lookup f2).map (·.cls) = some (.type "function") := O.ty2
    cases z : K.lookup f2 with
    | none => rw [z] at ht'; cases ht'
    | some of => rw [z] at ht'; exact ⟨of, X₂ _ _ z, Option.some.inj ht'⟩
  have hsup : alongIn K "__init__" ((cdC.mro.dropWhile (· != .ref C)).drop 1) = some (some (.ref f2)) := by
    have := O.sup
    unfold ks_superIn at this
    rw [hC] at this
    exact this
  refine ks_wpAny_getMethod_super e (looks_opaque X₂ O.stat) (l₀ := cdC.mro) ?_ rfl X₂ hsup hof hofc (ks_ne XX I hC) (by (first | kernel_rfl | decide +kernel)) ?_
  · exact fun A Q E s k q => wpAny_bind ((looks_clsIn X₂ hC) A _ E s k (wpAny_pure q))
  have km : ∀ a o, h'.get? a = some o → (h'.push (methodObj (.ref f2) (.ref x))).get? a = some o := fun a o e => Heap.get?_push_of_some _ e
  have S₃ := S₂.kept (s' := ⟨h'.push (methodObj (.ref f2) (.ref x)), g, d, t + 1, os⟩) ⟨_, _, rfl, km⟩
  have hmt : (h'.push (methodObj (.ref f2) (.ref x))).get? h'.objs.size = some (methodObj (.ref f2) (.ref x)) := Heap.get?_push_at rfl rfl
  refine callWith_of (P := MethP K h'.objs.size f2 (.ref x)) (by rfl) (keeps_M O.fnI) ?_
  refine wp_evalArgs (by rfl) ?_
  have nmv : ∀ {y : Str} {p : Pos} {dd : V} {Q' : Value → Shared → Prop}, (senv L f cc cda q).kindOf y = some .local → argsρ opPs (opDs x sg Q nums) y = some dd → (y == ("__debug__" : Str)) = false → (∀ v, VR w b dd v → Q' v ⟨h'.push (methodObj (.ref f2) (.ref x)), g, d, t + 1, os⟩) → wpAny (Md w) A (eval (.Name y p) (senv L f cc cda q)) Q' NoE ⟨h'.push (methodObj (.ref f2) (.ref x)), g, d, t + 1, os⟩ := fun h1 h2 h3 h4 =>
    raw_name (env' := senv' L f cda q) S₃.loc rfl rfl h1 h1 h2 h4 h3
  refine Calls.spliced_cons (nmv (y := "signatures") (dd := sg) rfl rfl (by (first | kernel_rfl | decide +kernel)) fun v1 r1 => ?_)
  refine Calls.spliced_cons (nmv (y := "kinds") (dd := .raw .none) rfl rfl (by (first | kernel_rfl | decide +kernel)) fun v2 r2 => ?_)
  refine Calls.spliced_cons (nmv (y := "items") (dd := .lst (Q.map itemV)) rfl rfl (by (first | kernel_rfl | decide +kernel)) fun v3 r3 => ?_)
  refine Calls.spliced_cons (nmv (y := "numbers") (dd := .dct nums) rfl rfl (by (first | kernel_rfl | decide +kernel)) fun v4 r4 => ?_)
  refine Calls.spliced_nil ⟨⟨hmt, X₂.keeps km⟩, ?_⟩
  have call := (nminit_fc (w := w) (n := n) (C := C) (x := x) (dx := dx) (sg := sg) (Q := Q) (nums := nums) Gv X₀ O.cls O.nm hQ) A b ⟨h'.push (methodObj (.ref f2) (.ref x)), g, d, t + 1, os⟩ [.ref x, v1, v2, v3, v4] rm S₃.loc.bas (by simp only [VRs]; exact ⟨rfl, r1, r2, r3, r4, trivial⟩)
  refine wpAny_call (method_call hmt (codeAny_mono call fun r s' p => ?_))
  rcases r with e | (v | _ | _ | _) <;> first | exact p.elim | skip
  obtain ⟨b', d', own', ⟨h1, h2⟩, hk', st, B', rv⟩ := p
  subst h1 h2
  exact ⟨rfl, b', S₃.step st (Loc.after (r := []) S₃.loc st B' hk') rfl⟩
end
end Mine
end
section
open PySem PySem.W PyProof.Rows PySem.MeetsSeq PySem.SeqAt
set_option maxRecDepth 100000
namespace Mine

section
variable {w : World} {H Z : Heap} {n : Nat} {pk : List Addr} {env : Env} {ρ ρc : Names} {o₀ o₁ o₂ o₃ own own₁ own₂ F : Own} {N : Names → Own → Prop} {R : V → Own → Prop} {sts : List Stmt} {st : Stmt} {mg mb : Str → Option Value} {K : Frag}

theorem op_kinds : ∀ x ∈ opPs, (mem 47 0).2.2.names.lookup x = some .local := by
  intro x hx
  simp only [opPs, List.mem_cons, List.not_mem_nil, or_false] at hx
  rcases hx with rfl | rfl | rfl | rfl | rfl <;> rfl

theorem opinit_fc {C f cc cda f2 x dx : Addr} {sg : V} {Q : List Lab} {nums : List (Str × V)} (Gv : Gl H mg mb) (Bl : Blts mg mb) (X₀ : K.In H) (O : OpAt H K C f cc cda f2) (hQ : Q.length ≤ 1000) :
    Fc w H (n + 2) (.ref f) [(dx, .attrs x C [])] (opDs x sg Q nums) (fun d o => d = .raw .none ∧ o = [(dx, .attrs x C (fsO sg Q nums))]) := by
  intro A b s us rm B hr
  obtain ⟨o, fd, hf, hfc, hfd, hcode, hb, hclo, hgl, hbl, hsc, hp, hdf, hkd, hcda⟩ := O.fn
  have kH : Le H s.heap := B.base.trans B.sub
  have hus : us.length = opPs.length := by rw [hr.length]; rfl
  have hfst : (opPs.zip us).map (·.1) = opPs := by rw [List.map_fst_zip]; (first | assumption | exact Nat.le_of_ble_eq_true rfl | exact Nat.add_le_add_left (Nat.le_of_ble_eq_true rfl) _ | exact Nat.le_trans (by assumption) (Nat.le_of_ble_eq_true rfl) | lia | omega)
  have hnd : ((opPs.zip us).map (·.1)).Nodup := by rw [hfst]; (first | kernel_rfl | decide +kernel)
  refine ks_codeAny_call_defAt (fd := fd) (body := (mem 47 0).2.1) (binds := opPs.zip us) rm.depth (X₀.keeps kH _ _ hf) hfd (Gv.lim.keeps kH) (codeRec_of (X₀.keeps kH) hcode) hb (BindsTo.of_eq (P_op_init.bind fd us hp hdf hkd hus)) (by rw [hsc]; (first | kernel_rfl | decide +kernel)) (fun y hy => by rw [hsc]; exact op_kinds _ (List.of_mem_zip (a := y.1) (b := y.2) hy).1) (fun h₀ hns hk₀ => ?_) (by rw [hsc]; rfl) (by rw [hsc]; rfl) (by rw [hsc]; rfl)
  have he : callEnv fd s.heap.objs.size f = senv s.heap.objs.size f cc cda (fd.qualname ++ ".<locals>.") := by
    unfold callEnv senv; rw [hsc, hgl, hclo, hbl, hcda]
  rw [he]
  generalize fd.qualname ++ ".<locals>." = q
  have hL : s.heap.get? s.heap.objs.size = none := get_size_none _
  have hpriv : ∀ a, Priv (senv' s.heap.objs.size f cda q) a → a = s.heap.objs.size := fun a pa => by
    rcases pa with rfl | ⟨y, hy⟩
    · rfl
    · cases hy
  have hbn : ∀ a, Priv (senv' s.heap.objs.size f cda q) a → b.get? a = none := fun a pa => by
    rw [hpriv a pa]
    cases e : b.get? s.heap.objs.size with
    | none => rfl
    | some z => have := B.sub _ _ e; rw [hL] at this; cases this
  have S : Sta w H (senv' s.heap.objs.size f cda q) [dx] [(dx, .attrs x C [])] b s (only s.heap fun _ => false) b { s with heap := h₀, toks := s.toks + (opPs.zip us).length } (argsρ opPs (opDs x sg Q nums)) [(dx, .attrs x C [])] := by
    refine ⟨rfl, ⟨⟨_, _, rfl⟩, fun c z _ e => hk₀ _ _ e, fun c z e => ⟨z, hk₀ _ _ e⟩, Le.refl _, fun _ _ e => .inl e⟩,
      ⟨⟨rfl, rfl, rfl⟩, B.base, B.sub.trans hk₀, ⟨_, fun _ => none, ⟨hns, fun nm c hc => (by cases hc), List.Pairwise.nil, fun nm c hc => (by cases hc)⟩, fun y e hy => ?_⟩, hbn, fun p hp => (B.ow p hp).keep (Le.refl _) fun z e => hk₀ _ _ e, B.ownb, fun p hp pa => ?_, B.nodup⟩, fun a pa => by rw [hpriv a pa]; exact hL, fun p hp => .inl (List.mem_map_of_mem hp), fun a z e => by simp [only_get] at e, fun a z e => by simp [only_get] at e, fun a ha => ?_⟩
    · obtain ⟨v, h1, h2⟩ := zip_lookup hr hy
      refine ⟨v, ?_, h2⟩
      have hm : y ∈ opPs := (List.of_mem_zip h1).1
      have hk : (senv' s.heap.objs.size f cda q).kindOf y = some .local := op_kinds y hm
      unfold nameVal
      rw [if_pos hk]
      exact lookup_mem (List.mem_reverse.mpr h1) (by rw [List.map_reverse]; exact (List.reverse_perm _).nodup_iff.mpr hnd)
    · obtain ⟨z, hz⟩ := (B.ow p hp).live
      rw [hpriv _ pa, hL] at hz; cases hz
    · rw [List.mem_singleton.mp ha]
      exact (B.ow _ (.head _)).live
  have rm' : Rm (n + 1) (A.deeper (senv s.heap.objs.size f cc cda q)) := rm.deeper _
  refine ks_wpAt_execs_cons (ks_wpAt_mono (op_super (body := (mem 47 0).2.1) Gv Bl X₀ O hQ rm' S _ rfl) (fun fl s₁ ⟨e, b₁, S₁⟩ => ?_) fun _ _ e => e.elim)
  subst e
  refine wpAt_of_wpAny (wpAny_mono (wp_any (op_rest X₀ O.cls (by rfl) S₁)) (fun fl s₂ ⟨e, S₂⟩ => ?_) fun _ _ e => e)
  subst e
  exact ⟨b₁, .raw .none, _, ⟨rfl, rfl⟩, rfl, S₂.st, S₂.loc.bas, rfl⟩

noncomputable def opV (C : Addr) (sg : V) (Q : List Lab) (nums : List (Str × V)) : V := .ins C (fsO sg Q nums)
theorem opnew_fn {C f cc cda f2 : Addr} {sg : V} {Q : List Lab} {nums : List (Str × V)} (Gv : Gl H mg mb) (Bl : Blts mg mb) (X₀ : K.In H) (O : OpAt H K C f cc cda f2) (hQ : Q.length ≤ 1000) :
    Fn w H (n + 3) (.ref C) [] [sg, .raw .none, .lst (Q.map itemV), .dct nums] (opV C sg Q nums) [] := by
  obtain ⟨o, fd, hf, hfc, _⟩ := O.fn
  exact Fn.of_fr (Fr'.of (Fc.new X₀ O.makes O.find (by show (K.lookup f).map (·.cls) = _; rw [hf]; exact congrArg some hfc) fun x dx => Fc.mono (opinit_fc (n := n) Gv Bl X₀ O hQ) fun d o ⟨h1, h2⟩ => ⟨h1, _, [], h2, rfl, rfl⟩)) rfl
end
end Mine
end
section
open PySem PySem.W PyProof.Rows PySem.MeetsSeq PySem.SeqAt
set_option maxRecDepth 100000
namespace Mine

section
variable {w : World} {H Z : Heap} {n : Nat} {pk : List Addr} {env : Env} {ρ ρc : Names} {o₀ o₁ o₂ o₃ own own₁ own₂ F : Own} {N : Names → Own → Prop} {R : V → Own → Prop} {sts : List Stmt} {st : Stmt} {mg mb : Str → Option Value} {K : Frag}

/-- a comprehension's scope with its two names and no other -/
structure PairOk (scope : Scope) (env : Env) (x y : Str) : Prop where
  kind : scope.kind = .function
  free : ∀ z ∈ scope.names, z.2 = .free → (env.cells.lookup z.1).isSome = true
  nd : (scope.names.map (·.1)).Nodup
  nox : (x, .local) ∈ scope.names
  noy : (y, .local) ∈ scope.names
  cells : ∀ k, cellsFrom k scope.names (capt env scope.names []) = []
  push : ∀ h, pushCells h scope.names = h

noncomputable def mapAt (f : Nat → V → V) : Nat → List V → List V
  | _, [] => []
  | i, d :: ds => f i d :: mapAt f (i + 1) ds
theorem mapAt_append {f : Nat → V → V} : ∀ {i : Nat} {ds es : List V}, mapAt f i (ds ++ es) = mapAt f i ds ++ mapAt f (i + ds.length) es
  | i, [], es => by simp [mapAt]
  | i, d :: ds, es => by
    simp only [List.cons_append, mapAt, List.length_cons, mapAt_append (i := i + 1) (ds := ds)]
    rw [show i + 1 + ds.length = i + (ds.length + 1) by (first | assumption | exact Nat.le_of_ble_eq_true rfl | exact Nat.add_le_add_left (Nat.le_of_ble_eq_true rfl) _ | exact Nat.le_trans (by assumption) (Nat.le_of_ble_eq_true rfl) | lia | omega)]
theorem mapAt_length {f : Nat → V → V} : ∀ {i : Nat} {ds : List V}, (mapAt f i ds).length = ds.length
  | _, [] => rfl
  | i, _ :: ds => by simp [mapAt, mapAt_length (i := i + 1) (ds := ds)]

structure EnInv (w : World) (H : Heap) (cenv : Env) (x y : Str) (b₁ : Heap) (s₁ : Shared) (e₀ it l D : Addr) (vs₀ : List Value) (ds : List V) (f : Nat → V → V) (i : Nat) (s' : Shared) : Prop where
  same : ∃ h t, s' = { s₁ with heap := h, toks := t }
  keep : Le s₁.heap s'.heap
  inv : ∃ b' ρ' vs, Le b₁ b' ∧ (∀ a o, b'.get? a = some o → b₁.get? a = some o ∨ s₁.heap.get? a = none) ∧ Loc w H cenv b' s'.heap ρ' [] ∧ (∀ z, z ≠ x → z ≠ y → ρ' z = none) ∧ s'.heap.PlainList D (List.toArray vs) ∧ VRs w b' (mapAt f 0 (ds.take i)) vs ∧ b'.get? D = none ∧ b'.get? e₀ = none ∧ b'.get? it = none
  st : (∃ old, IsEnum s'.heap e₀ it i old) ∧ s'.heap.IsListIter it l i ∧ s'.heap.IsList l vs₀.toArray

theorem fresh_priv {b h : Heap} {a : Addr} (L : Loc w H env b h ρ own) (hn : h.get? a = none) : b.get? a = none ∧ a ∉ own.map (·.1) ∧ ¬ Priv env a := by
  obtain ⟨m, cm, Fr, hv⟩ := L.frm
  refine ⟨?_, fun hm => ?_, fun pa => ?_⟩
  · cases e : b.get? a with
    | none => rfl
    | some q => have := L.sub _ _ e; rw [hn] at this; cases this
  · obtain ⟨p, hp, e⟩ := List.mem_map.mp hm
    obtain ⟨q, hq⟩ := (L.ow p hp).live
    rw [e, hn] at hq; cases hq
  · obtain ⟨q, hq⟩ := Fr.live pa; rw [hn] at hq; cases hq

theorem en_loop {A : Around} {cenv : Env} {elt iter : Expr} {x y : Str} {px py tp : Pos} {k : Nat} {scope : Scope} {pos : Pos} {e₀ it l D : Addr} {vs₀ : List Value} {ds : List V} {b₁ : Heap} {s₁ s : Shared} {Rr : Result → Shared → Prop} {f : Nat → V → V}
    (rm : Rm n A) (hei : e₀ ≠ it) (hle : l ≠ e₀) (hli : l ≠ it) (hlb : ∃ q, b₁.get? l = some q) (hV : VRs w b₁ ds vs₀) (he0 : s₁.heap.get? e₀ = none) (hi0 : s₁.heap.get? it = none) (hD0 : s₁.heap.get? D = none) (hDe : D ≠ e₀) (hDi : D ≠ it)
    (hx : Storable cenv x) (hy : Storable cenv y) (hpl : ∀ a, Priv cenv a → s₁.heap.get? a = none ∧ a ≠ e₀ ∧ a ≠ it ∧ a ≠ D) (hsz : ds.length ≤ 10000)
    (helt : ∀ (i : Nat) d, ds[i]? = some d → Ev w H n cenv (upd (upd (fun _ => none) x (.int i)) y d) [] elt (f i d) [])
    (h0 : EnInv w H cenv x y b₁ s₁ e₀ it l D vs₀ ds f 0 s)
    (hRk : ∀ s' h tk, EnInv w H cenv x y b₁ s₁ e₀ it l D vs₀ ds f ds.length s' → (∀ a o, a ≠ e₀ → a ≠ it → s'.heap.get? a = some o → h.get? a = some o) → Rr (.ok .next) { s' with heap := h, toks := tk }) :
    codeAny (Md w) A (.compLoop (.ListComp elt [⟨.Tuple [.Name x px, .Name y py] k tp, iter, [], 0⟩] scope pos) 0 (.ref e₀) (.ref D) cenv) Rr s := by
  have W := WalksT.enumerate (prog := Pg) (w := w) rm.hd e₀ it l hei hle hli vs₀.toArray
  have hlen : vs₀.toArray.size = ds.length := by simp [hV.length]
  refine LCp.codeAny_compLoop_pair (fun k s' => ∃ i, i ≤ ds.length ∧ k = ds.length + 1 - i ∧ EnInv w H cenv x y b₁ s₁ e₀ it l D vs₀ ds f i s') ?_ (ds.length + 1) ⟨0, Nat.zero_le _, rfl, h0⟩
  rintro k' s' ⟨i, hi, rfl, I⟩
  obtain ⟨b', ρ', vs, le', fr', L', hρ, hD', hVs, nD, ne, ni⟩ := I.inv
  have hnw : ∀ a ∈ [e₀, it], b'.get? a = none ∧ a ∉ ([] : Own).map (·.1) ∧ ¬ Priv cenv a := fun a ha => by
    simp only [List.mem_cons, List.not_mem_nil, or_false] at ha
    rcases ha with rfl | rfl
    · exact ⟨ne, by simp, fun pa => (hpl _ pa).2.1 rfl⟩
    · exact ⟨ni, by simp, fun pa => (hpl _ pa).2.2.1 rfl⟩
  by_cases hlt : i < ds.length
  · refine W.item i _ _ _ (by rw [hlen]; exact hlt) I.st fun T vals h₁ tk₁ hP hT hTup hMid hk₁ => ?_
    obtain ⟨t, xv, hxv, rfl⟩ := hP
    have hTs : s'.heap.get? T = none := get_ge_none hT
    refine W.go _ _ _ i T { s' with heap := h₁, toks := tk₁ } _ _ hMid fun h₂ hst₂ hk₂ => ?_
    have hTw : T ∉ [e₀, it] := W.apart i T h₁ hMid
    have k2 : ∀ a o, a ∉ [e₀, it] → s'.heap.get? a = some o → h₂.get? a = some o := fun a o ha e => hk₂ a o ha (hk₁ a o ha e)
    have L₂ : Loc w H cenv b' h₂ ρ' [] := L'.other k2 hnw
    have hTup₂ : h₂.IsTuple T #[.int i t, xv] := hTup.at fun o e => hk₂ _ o hTw e
    refine assign_Tuple_tuple rm.hd hTup₂ rfl rfl fun h₃ he₃ => ?_
    have fr2 := fresh_priv L₂ (get_size_none h₂)
    have k3 : ∀ a o, h₂.get? a = some o → h₃.get? a = some o := fun a o e => he₃ a o (Nat.ne_of_lt (Heap.lt_size e)) e
    have L₃ : Loc w H cenv b' h₃ ρ' [] := L₂.other (wr := [h₂.objs.size]) (fun a o ha e => k3 a o e) fun a ha => by rw [List.mem_singleton.mp ha]; exact fr2
    obtain ⟨d, hd, rv⟩ := hV.get' (by simpa using hxv)
    refine assignInOrder_cons (wpAny_assign_Name (wp_store (s := { s' with heap := h₃, toks := tk₁ }) L₃ hx (d := .int i) ⟨t, rfl⟩ fun h₄ tk₄ c₄ hc₄ hs₄ hl₄ L₄ => ?_))
    refine assignInOrder_cons (wpAny_assign_Name (wp_store (s := { s' with heap := h₄, toks := tk₄ }) L₄ hy (rv.mono le') fun h₅ tk₅ c₅ hc₅ hs₅ hl₅ L₅ => ?_))
    refine assignInOrder_nil ?_
    have hρ5 : upd (upd ρ' x (.int i)) y d = upd (upd (fun _ => none) x (.int i)) y d := funext fun z => by
      by_cases h1 : z = y
      · subst h1; rw [upd_here, upd_here]
      · rw [upd_there h1, upd_there h1]
        by_cases h2 : z = x
        · subst h2; rw [upd_here, upd_here]
        · rw [upd_there h2, upd_there h2]; exact hρ z h2 h1
    rw [hρ5] at L₅
    have p4 := hpl c₄ hc₄.priv
    have p5 := hpl c₅ hc₅.priv
    have k5 : ∀ a o, a ≠ c₄ → a ≠ c₅ → h₂.get? a = some o → h₅.get? a = some o := fun a o h1 h2 e => hs₅.extBut a o h2 (hs₄.extBut a o h1 (k3 a o e))
    have old5 : Le s₁.heap h₅ := fun a o e => by
      have n1 : a ≠ e₀ := fun q => by rw [q, he0] at e; cases e
      have n2 : a ≠ it := fun q => by rw [q, hi0] at e; cases e
      exact k5 a o (fun q => by rw [q, p4.1] at e; cases e) (fun q => by rw [q, p5.1] at e; cases e) (k2 a o (by simp [n1, n2]) (I.keep a o e))
    have hst₅ : (∃ old, IsEnum h₅ e₀ it ((i + 1 : Nat) : Int) old) ∧ h₅.IsListIter it l (i + 1) ∧ h₅.IsList l vs₀.toArray := W.frame (i + 1) _ _ hst₂ fun a ha o e => by
      simp only [List.mem_cons, List.not_mem_nil, or_false] at ha
      rcases ha with rfl | rfl | rfl
      · exact k5 _ o (Ne.symm p4.2.1) (Ne.symm p5.2.1) e
      · exact k5 _ o (Ne.symm p4.2.2.1) (Ne.symm p5.2.2.1) e
      · obtain ⟨q, hq⟩ := hlb
        have nl : ∀ c, Priv cenv c → a ≠ c := fun c pc e' => by have := L₅.priv c pc; rw [← e', le' _ _ hq] at this; cases this
        exact k5 _ o (nl _ hc₄.priv) (nl _ hc₅.priv) e
    have hD₅ : h₅.PlainList D (List.toArray vs) := hD'.at fun o e => k5 D o (Ne.symm p4.2.2.2) (Ne.symm p5.2.2.2) (k2 D o (by simp [hDe, hDi]) e)
    refine wpAny_mono (wp_any ((helt i d hd).run rm L₅)) (fun yv s₆ h₆ => ?_) fun _ _ e => e
    obtain ⟨b₆, st₆, L₆, r₆⟩ := h₆
    obtain ⟨g₆, t₆, hs₆⟩ := st₆.same
    have D₆ : s₆.heap.PlainList D (List.toArray vs) := hD₅.at fun o e => st₆.old e
    have nD₆ : b₆.get? D = none := st₆.none nD (by obtain ⟨k, hk⟩ := hD₅; exact ⟨_, hk⟩)
    have hsz' : vs.toArray.size ≤ sizeLine := by
      have := hVs.length
      rw [mapAt_length, List.length_take] at this
      rw [List.size_toArray, sizeLine_eq]; (first | assumption | exact Nat.le_of_ble_eq_true rfl | exact Nat.add_le_add_left (Nat.le_of_ble_eq_true rfl) _ | exact Nat.le_trans (by assumption) (Nat.le_of_ble_eq_true rfl) | lia | omega)
    refine wpAny_list_append_plain (hsz := hsz') D₆ fun h₇ hl₇ hs₇ => ?_
    have k7 : ∀ a o, a ≠ D → h₅.get? a = some o → h₇.get? a = some o := fun a o ha e => hs₇.extBut a o ha (st₆.old e)
    have htake : ds.take (i + 1) = ds.take i ++ [d] := by rw [List.take_add_one, hd]; rfl
    refine ⟨ds.length + 1 - (i + 1), by (first | assumption | exact Nat.le_of_ble_eq_true rfl | exact Nat.add_le_add_left (Nat.le_of_ble_eq_true rfl) _ | exact Nat.le_trans (by assumption) (Nat.le_of_ble_eq_true rfl) | lia | omega), i + 1, hlt, rfl, ⟨?_, fun a o e => k7 a o (fun q => by rw [q, hD0] at e; cases e) (old5 a o e), ⟨b₆, _, vs ++ [yv], le'.trans st₆.grow, fun a o e => ?_, L₆.other (wr := [D]) (fun a o ha e => hs₇.extBut a o (by simpa using ha) e) (fun a ha => by rw [List.mem_singleton.mp ha]; exact ⟨nD₆, by simp, fun pa => (hpl _ pa).2.2.2 rfl⟩), fun z h1 h2 => by rw [upd_there h2, upd_there h1], by simpa using hl₇, ?_, nD₆, st₆.none ne (by obtain ⟨old, h⟩ := hst₅.1; exact ⟨_, h⟩), st₆.none ni (by obtain ⟨o, h, _⟩ := hst₅.2.1; exact ⟨_, h⟩)⟩, ?_⟩⟩
    · obtain ⟨h', t', e'⟩ := I.same
      refine ⟨h₇, s₆.toks, ?_⟩
      rw [hs₆, e']
    · rcases st₆.fresh a o e with h | h
      · exact fr' a o h
      · right
        cases q : s₁.heap.get? a with
        | none => rfl
        | some z => have := old5 a z q; rw [h] at this; cases this
    · rw [htake, mapAt_append]
      refine (hVs.mono st₆.grow).append ?_
      have hl : (ds.take i).length = i := by rw [List.length_take]; (first | assumption | exact Nat.le_of_ble_eq_true rfl | exact Nat.add_le_add_left (Nat.le_of_ble_eq_true rfl) _ | exact Nat.le_trans (by assumption) (Nat.le_of_ble_eq_true rfl) | lia | omega)
      rw [hl, Nat.zero_add]
      simp only [mapAt, VRs]
      exact ⟨r₆, trivial⟩
    · refine W.frame (i + 1) _ _ hst₅ fun a ha o e => ?_
      simp only [List.mem_cons, List.not_mem_nil, or_false] at ha
      refine k7 a o ?_ e
      rcases ha with rfl | rfl | rfl
      · exact Ne.symm hDe
      · exact Ne.symm hDi
      · obtain ⟨q, hq⟩ := hlb
        intro e'
        rw [← e', le' _ _ hq] at nD; cases nD
  · have hin : i = ds.length := by (first | assumption | exact Nat.le_of_ble_eq_true rfl | exact Nat.add_le_add_left (Nat.le_of_ble_eq_true rfl) _ | exact Nat.le_trans (by assumption) (Nat.le_of_ble_eq_true rfl) | lia | omega)
    subst hin
    refine W.done _ _ _ (by rw [hlen]; exact I.st) fun h₁ tk₁ hk₁ => ?_
    exact hRk s' h₁ tk₁ I fun a o h1 h2 e => hk₁ a o (by simp [h1, h2]) e

theorem Ev.enumComp {elt e : Expr} {x y : Str} {px py tp p1 p2 pos : Pos} {k : Nat} {scope : Scope} {ds : List V} {f : Nat → V → V} (Gv : Gl H mg mb) (Bl : Blts mg mb) (hke : env.kindOf "enumerate" = some .globalImplicit) (src : Es w H n env ρ own [e] [.lst ds] own₁) (J : PairOk scope env x y) (hsz : ds.length ≤ 10000)
    (helt : ∀ C, EnvOk (cenvOf scope env C) → ∀ (i : Nat) d, ds[i]? = some d → Ev w H n (cenvOf scope env C) (upd (upd (fun _ => none) x (.int i)) y d) [] elt (f i d) [])
    (hp : ∀ pos, (backTo pos (starEach [e] env)).any (·.1) = false := by intro _; rfl)
    (he : eval (.Call (.Name "enumerate" p1) [e] [] p2) env = (do callWith p2 (← eval (.Name "enumerate" p1) env) [] (backTo p2 (starEach [e] env)) (backToKw p2 (keywordEach [] env))) := by rfl)
    (hs : ∀ z, foldedSetIterable (.Call (.Name "enumerate" p1) [e] [] p2) env z = pure z := by intro _; rfl) :
    Ev w H n env ρ own (.ListComp elt [⟨.Tuple [.Name x px, .Name y py] k tp, .Call (.Name "enumerate" p1) [e] [] p2, [], 0⟩] scope pos) (.lst (mapAt f 0 ds)) own₁ :=
  .mk src.1 fun A b s rm L => by
    rw [eval_ListComp]
    refine wpAny_comprehension_free (use := none) rfl hs (closureFor_eq J.free) J.kind (names_ok J.nd) ?_
    refine Call_ (wpAny_mono ((Ev.blt (w := w) (n := n) (ρ := ρ) (o₀ := own) Gv hke Bl.enumerate.1 Bl.enumerate.2).run rm L) (fun u s₁ ⟨b₁, st₁, L₁, r₁⟩ => ?_) fun _ _ e => e) he
    cases r₁
    refine wp_callWith (H := H) (.type "enumerate") (hp _) (wpAny_mono (src.2 A b₁ s₁ p2 rm L₁) (fun us s₂ ⟨b₂, st₂, L₂, r₂⟩ => ⟨L₂.base.trans L₂.sub, ?_⟩) fun _ _ e => e)
    cases us with
    | nil => simp [VRs] at r₂
    | cons u us =>
    cases us with
    | cons _ _ => simp [VRs] at r₂
    | nil =>
    simp only [VRs] at r₂
    have hlb : ∃ a q, u = .ref a ∧ b₂.get? a = some q := by
      have := r₂.1
      simp only [VR] at this
      obtain ⟨a, _, e, ⟨o, _, ho, _⟩, _⟩ := this
      exact ⟨a, o, e, ho⟩
    obtain ⟨l, vs₀, rfl, hl, hV⟩ := seeL L₂ r₂.1 AsL.lst
    obtain ⟨_, q, e, hlq⟩ := hlb
    cases e
    show wpAny (Md w) A (PySem.call (.type "enumerate") [.ref l]) _ _ _
    refine call_enumerate_list hl fun h' hen hit hsz' hk => ?_
    refine wpAny_pyIter_enum hen ?_
    have hll : l < s₂.heap.objs.size := by obtain ⟨o, ho, _⟩ := hl; exact Heap.lt_size ho
    obtain ⟨sz, hsz2⟩ : ∃ sz, sz = s₂.heap.objs.size := ⟨_, rfl⟩
    refine wpAny_newObj_type (wp_compEnv ?_)
    dsimp only [newEnv]
    rw [J.push]
    generalize hH2 : h'.push { cls := .type "list", dict := none, data := .seq ([] : List Value).toArray } = H2
    have hH2s : H2.objs.size = h'.objs.size + 1 := by rw [← hH2, Heap.size_push]
    generalize hH3 : H2.push { cls := .type "dict", data := .dict #[] } = H3
    have old2 : ∀ a o, H2.get? a = some o → H3.get? a = some o := fun a o e => hH3 ▸ Heap.get?_push_of_some _ e
    have old3 : ∀ a o, h'.get? a = some o → H3.get? a = some o := fun a o e => old2 a o (hH2 ▸ Heap.get?_push_of_some _ e)
    have old : Le s₂.heap H3 := fun a o e => old3 a o (hk a o e)
    have hD : H3.PlainList h'.objs.size #[] := ⟨_, old2 _ _ (hH2 ▸ Heap.get?_push_size _ rfl)⟩
    have hns : H3.Ns H2.objs.size fun _ => none := by rw [← hH3]; exact Heap.Ns.new H2 (.type "dict")
    have hcells : (cenvOf scope env H2.objs.size).cells = [] := J.cells _
    have hpr : ∀ a, Priv (cenvOf scope env H2.objs.size) a → a = H2.objs.size := fun a pa => by
      rcases pa with rfl | ⟨z, hz⟩
      · rfl
      · rw [hcells] at hz; cases hz
    have z2 : H2.objs.size = s₂.heap.objs.size + 3 := by (first | assumption | exact Nat.le_of_ble_eq_true rfl | exact Nat.add_le_add_left (Nat.le_of_ble_eq_true rfl) _ | exact Nat.le_trans (by assumption) (Nat.le_of_ble_eq_true rfl) | lia | omega)
    have a1 : @Ne Nat H2.objs.size (s₂.heap.objs.size + 1) := by (first | assumption | exact Nat.le_of_ble_eq_true rfl | exact Nat.add_le_add_left (Nat.le_of_ble_eq_true rfl) _ | exact Nat.le_trans (by assumption) (Nat.le_of_ble_eq_true rfl) | lia | omega)
    have a2 : @Ne Nat H2.objs.size s₂.heap.objs.size := by (first | assumption | exact Nat.le_of_ble_eq_true rfl | exact Nat.add_le_add_left (Nat.le_of_ble_eq_true rfl) _ | exact Nat.le_trans (by assumption) (Nat.le_of_ble_eq_true rfl) | lia | omega)
    have a3 : @Ne Nat H2.objs.size h'.objs.size := by (first | assumption | exact Nat.le_of_ble_eq_true rfl | exact Nat.add_le_add_left (Nat.le_of_ble_eq_true rfl) _ | exact Nat.le_trans (by assumption) (Nat.le_of_ble_eq_true rfl) | lia | omega)
    have a4 : @Ne Nat h'.objs.size (s₂.heap.objs.size + 1) := by (first | assumption | exact Nat.le_of_ble_eq_true rfl | exact Nat.add_le_add_left (Nat.le_of_ble_eq_true rfl) _ | exact Nat.le_trans (by assumption) (Nat.le_of_ble_eq_true rfl) | lia | omega)
    have a5 : @Ne Nat h'.objs.size s₂.heap.objs.size := by (first | assumption | exact Nat.le_of_ble_eq_true rfl | exact Nat.add_le_add_left (Nat.le_of_ble_eq_true rfl) _ | exact Nat.le_trans (by assumption) (Nat.le_of_ble_eq_true rfl) | lia | omega)
    have a6 : @Ne Nat h'.objs.size H2.objs.size := by (first | assumption | exact Nat.le_of_ble_eq_true rfl | exact Nat.add_le_add_left (Nat.le_of_ble_eq_true rfl) _ | exact Nat.le_trans (by assumption) (Nat.le_of_ble_eq_true rfl) | lia | omega)
    have a7 : @Ne Nat (s₂.heap.objs.size + 1) s₂.heap.objs.size := by (first | assumption | exact Nat.le_of_ble_eq_true rfl | exact Nat.add_le_add_left (Nat.le_of_ble_eq_true rfl) _ | exact Nat.le_trans (by assumption) (Nat.le_of_ble_eq_true rfl) | lia | omega)
    have a8 : @Ne Nat l (s₂.heap.objs.size + 1) := by have : @LT.lt Nat _ l s₂.heap.objs.size := hll; (first | assumption | exact Nat.le_of_ble_eq_true rfl | exact Nat.add_le_add_left (Nat.le_of_ble_eq_true rfl) _ | exact Nat.le_trans (by assumption) (Nat.le_of_ble_eq_true rfl) | lia | omega)
    have a9 : @Ne Nat l s₂.heap.objs.size := by have : @LT.lt Nat _ l s₂.heap.objs.size := hll; (first | assumption | exact Nat.le_of_ble_eq_true rfl | exact Nat.add_le_add_left (Nat.le_of_ble_eq_true rfl) _ | exact Nat.le_trans (by assumption) (Nat.le_of_ble_eq_true rfl) | lia | omega)
    have nb : ∀ a : Nat, s₂.heap.objs.size ≤ a → s₂.heap.get? a = none ∧ b₂.get? a = none := fun a ha => ⟨get_ge_none ha, (fresh_priv L₂ (get_ge_none ha)).1⟩
    have okc : EnvOk (cenvOf scope env H2.objs.size) := ⟨J.kind, L₂.ok.gl, L₂.ok.bl⟩
    have kx : (cenvOf scope env H2.objs.size).kindOf x = some .local := lookup_relabel_local (lookup_mem J.nox J.nd)
    have ky : (cenvOf scope env H2.objs.size).kindOf y = some .local := lookup_relabel_local (lookup_mem J.noy J.nd)
    have Lc : Loc w H (cenvOf scope env H2.objs.size) b₂ H3 (fun _ => none) [] := ⟨okc, L₂.base, L₂.sub.trans old, ⟨fun _ => none, fun _ => none, ⟨hns, fun z c hc => (by rw [hcells] at hc; cases hc), by rw [hcells]; exact List.Pairwise.nil, fun z c hc => (by rw [hcells] at hc; cases hc)⟩, fun z d hz => (by cases hz)⟩, fun a pa => by rw [hpr a pa]; exact (nb _ (by (first | assumption | exact Nat.le_of_ble_eq_true rfl | exact Nat.add_le_add_left (Nat.le_of_ble_eq_true rfl) _ | exact Nat.le_trans (by assumption) (Nat.le_of_ble_eq_true rfl) | lia | omega))).2, (fun _ h => nomatch h), (fun _ h => nomatch h), (fun _ h => nomatch h), List.nodup_nil⟩
    have hsp : Storable (cenvOf scope env H2.objs.size) x := .inl kx
    have hsq : Storable (cenvOf scope env H2.objs.size) y := .inl ky
    have I0 : EnInv w H (cenvOf scope env H2.objs.size) x y b₂ s₂ (s₂.heap.objs.size + 1) s₂.heap.objs.size l h'.objs.size vs₀ ds f 0 { s₂ with heap := H3 } := by
      refine ⟨⟨_, _, rfl⟩, old, ⟨b₂, fun _ => none, [], Le.refl _, fun a o e => .inl e, Lc, fun _ _ _ => rfl, hD, by simp [VRs, mapAt], (nb _ (by (first | assumption | exact Nat.le_of_ble_eq_true rfl | exact Nat.add_le_add_left (Nat.le_of_ble_eq_true rfl) _ | exact Nat.le_trans (by assumption) (Nat.le_of_ble_eq_true rfl) | lia | omega))).2, (nb _ (by (first | assumption | exact Nat.le_of_ble_eq_true rfl | exact Nat.add_le_add_left (Nat.le_of_ble_eq_true rfl) _ | exact Nat.le_trans (by assumption) (Nat.le_of_ble_eq_true rfl) | lia | omega))).2, (nb _ (Nat.le_refl _)).2⟩, ⟨⟨_, old3 _ _ hen⟩, hit.at fun o e => old3 _ o e, hl.at fun o e => old _ _ e⟩⟩
    have fin : ∀ s' h tk, EnInv w H (cenvOf scope env H2.objs.size) x y b₂ s₂ (s₂.heap.objs.size + 1) s₂.heap.objs.size l h'.objs.size vs₀ ds f ds.length s' → (∀ a o, a ≠ s₂.heap.objs.size + 1 → a ≠ s₂.heap.objs.size → s'.heap.get? a = some o → h.get? a = some o) →
        compPost (Md w) A NoE none (Pt w H env ρ own b s own₁ (.lst (mapAt f 0 ds))) (.ref h'.objs.size) H2.objs.size (.ok .next) { s' with heap := h, toks := tk } := by
      intro s' h tk I hk'
      obtain ⟨b', ρ', vs, le', fr', L', hρ, hD', hVs, nD, ne, ni⟩ := I.inv
      rw [List.take_length] at hVs
      obtain ⟨m', cm', Fr', _⟩ := L'.frm
      have hnsC : h.Ns H2.objs.size m' := Fr'.ns.at' fun o e => hk' _ o a1 a2 e
      refine ⟨m', hnsC, fun g hg => ?_⟩
      have ext : ∀ a o, a ≠ H2.objs.size → h.get? a = some o → g.get? a = some o := fun a o ha e => (hg.2 a ha).trans e
      have hC0 : s₂.heap.get? H2.objs.size = none := (nb _ (by (first | assumption | exact Nat.le_of_ble_eq_true rfl | exact Nat.add_le_add_left (Nat.le_of_ble_eq_true rfl) _ | exact Nat.le_trans (by assumption) (Nat.le_of_ble_eq_true rfl) | lia | omega))).1
      have keep : Le s₂.heap g := fun a o e => by
        have ha : @LT.lt Nat _ a s₂.heap.objs.size := Heap.lt_size e
        have q1 : @Ne Nat a H2.objs.size := by (first | assumption | exact Nat.le_of_ble_eq_true rfl | exact Nat.add_le_add_left (Nat.le_of_ble_eq_true rfl) _ | exact Nat.le_trans (by assumption) (Nat.le_of_ble_eq_true rfl) | lia | omega)
        have q2 : @Ne Nat a (s₂.heap.objs.size + 1) := by (first | assumption | exact Nat.le_of_ble_eq_true rfl | exact Nat.add_le_add_left (Nat.le_of_ble_eq_true rfl) _ | exact Nat.le_trans (by assumption) (Nat.le_of_ble_eq_true rfl) | lia | omega)
        have q3 : @Ne Nat a s₂.heap.objs.size := by (first | assumption | exact Nat.le_of_ble_eq_true rfl | exact Nat.add_le_add_left (Nat.le_of_ble_eq_true rfl) _ | exact Nat.le_trans (by assumption) (Nat.le_of_ble_eq_true rfl) | lia | omega)
        exact ext a o q1 (hk' a o q2 q3 (I.keep a o e))
      obtain ⟨h1, t1, e1⟩ := I.same
      have k' : Keeps s₂ { s' with heap := g, toks := tk } := ⟨g, tk, by rw [e1], keep⟩
      refine Pt.pre st₁ rfl (Pt.pre st₂ src.1 (Pt.of_keeps (A := A) L₂ k' ?_))
      simp only [VR]
      obtain ⟨k₀, hk₀⟩ := hD'
      have bg : ∀ a o, b'.get? a = some o → (growH b₂ s₂.heap g).get? a = some o := fun a o e => by
        have nC : a ≠ H2.objs.size := fun q => by
          have := L'.priv H2.objs.size (.inl rfl); rw [← q, e] at this; cases this
        have n1 : a ≠ s₂.heap.objs.size + 1 := fun q => by rw [q, ne] at e; cases e
        have n2 : a ≠ s₂.heap.objs.size := fun q => by rw [q, ni] at e; cases e
        refine growH_some.mpr ⟨?_, ext a o nC (hk' a o n1 n2 (L'.sub _ _ e))⟩
        rcases fr' a o e with h | h
        · exact .inr (by rw [h]; rfl)
        · exact .inl h
      refine ⟨_, vs, rfl, ⟨_, _, growH_some.mpr ⟨.inl (nb _ (by (first | assumption | exact Nat.le_of_ble_eq_true rfl | exact Nat.add_le_add_left (Nat.le_of_ble_eq_true rfl) _ | exact Nat.le_trans (by assumption) (Nat.le_of_ble_eq_true rfl) | lia | omega))).1, ext _ _ a6 (hk' _ _ a4 a5 hk₀)⟩, rfl, rfl, rfl⟩, hVs.mono bg⟩
    have loop : codeAny (Md w) A (.compLoop (.ListComp elt [⟨.Tuple [.Name x px, .Name y py] k tp, .Call (.Name "enumerate" p1) [e] [] p2, [], 0⟩] scope pos) 0 (.ref (s₂.heap.objs.size + 1)) (.ref h'.objs.size) (cenvOf scope env H2.objs.size)) (compPost (Md w) A NoE none (Pt w H env ρ own b s own₁ (.lst (mapAt f 0 ds))) (.ref h'.objs.size) H2.objs.size) { s₂ with heap := H3 } := by
      refine en_loop rm a7 a8 a9 ⟨q, hlq⟩ hV (nb _ (by (first | assumption | exact Nat.le_of_ble_eq_true rfl | exact Nat.add_le_add_left (Nat.le_of_ble_eq_true rfl) _ | exact Nat.le_trans (by assumption) (Nat.le_of_ble_eq_true rfl) | lia | omega))).1 (nb _ (Nat.le_refl _)).1 (nb _ (by (first | assumption | exact Nat.le_of_ble_eq_true rfl | exact Nat.add_le_add_left (Nat.le_of_ble_eq_true rfl) _ | exact Nat.le_trans (by assumption) (Nat.le_of_ble_eq_true rfl) | lia | omega))).1 a4 a5 hsp hsq (fun a pa => by rw [hpr a pa]; exact ⟨(nb _ (by (first | assumption | exact Nat.le_of_ble_eq_true rfl | exact Nat.add_le_add_left (Nat.le_of_ble_eq_true rfl) _ | exact Nat.le_trans (by assumption) (Nat.le_of_ble_eq_true rfl) | lia | omega))).1, a1, a2, a3⟩) hsz (helt _ okc) I0 fin
    exact codeAny_compStart_list loop (wpAny_pyIter_enum (old3 _ _ hen) loop)
end
end Mine
end
section
open PySem PySem.W PyProof.Rows PySem.MeetsSeq PySem.SeqAt
set_option maxRecDepth 100000
namespace Mine

section
variable {w : World} {H Z : Heap} {n : Nat} {pk : List Addr} {env : Env} {ρ ρc : Names} {o₀ o₁ o₂ o₃ own own₁ own₂ F : Own} {N : Names → Own → Prop} {R : V → Own → Prop} {sts : List Stmt} {st : Stmt} {mg mb : Str → Option Value} {K : Frag}

theorem Sta.adopt {b₀ b : Heap} {s₀ s : Shared} {a : Addr} {O₁ : O} (S : Sta w H env pk o₀ b₀ s₀ Z b s ρ own) (h0 : s₀.heap.get? a = none) (hb : b.get? a = none) (ho : a ∉ own.map (·.1)) (hp : ¬ Priv env a) (hz : Z.get? a = none) (hpk : a ∉ pk) (h : OAt w b s.heap a O₁) :
    Sta w H env pk o₀ b₀ s₀ Z b s ρ ((a, O₁) :: own) := by
  have L := S.loc
  refine ⟨S.keys, S.st, ⟨L.ok, L.base, L.sub, L.frm, L.priv, fun p hp' => ?_, fun p hp' => ?_, fun p hp' => ?_, ?_⟩, S.priv0, fun p hp' => ?_, S.pin, fun c q e => ⟨fun hm => ?_, (S.pinO c q e).2⟩, S.lv⟩
  · rcases List.mem_cons.mp hp' with rfl | hp'
    · exact h
    · exact L.ow p hp'
  · rcases List.mem_cons.mp hp' with rfl | hp'
    · exact hb
    · exact L.ownb p hp'
  · rcases List.mem_cons.mp hp' with rfl | hp'
    · exact hp
    · exact L.ownp p hp'
  · rw [List.map_cons, List.nodup_cons]; exact ⟨ho, L.nodup⟩
  · rcases List.mem_cons.mp hp' with rfl | hp'
    · exact .inr h0
    · exact S.own0 p hp'
  · rcases List.mem_cons.mp hm with rfl | hm
    · rw [hz] at e; cases e
    · exact (S.pinO c q e).1 hm

/-- {'..': e, ..}, in hand -/
theorem Eg.disp {keys : List (Option Expr)} {values : List Expr} {kvs : List (Str × V)} {pos : Pos} {G : V → Own → Prop} (Gv : Gl H mg mb) (x : Ep w H n env ρ own keys values kvs) (hall : keys.all (·.isSome) = true) (hl : keys.length = values.length) (h0 : keys ≠ []) (hlen : keys.length ≤ 15)
    (g : ∀ a, a ∉ pk → a ∉ own.map (·.1) → G (.raw (.ref a)) ((a, .dict (putAll [] kvs)) :: own)) :
    Eg w H n pk env (.Dict keys values pos) ρ own G := fun A o₀ b₀ s₀ Z b s rm S => by
  have L := S.loc
  have hsys := sys_ne Gv L.bas
  have hn := get_size_none s.heap
  have k0 : Keeps s { s with heap := s.heap.push { cls := .type "dict", data := .dict #[] } } := Keeps.push _ s.toks
  have S₁ := S.kept k0
  obtain ⟨nb, no, np⟩ := fresh_priv L hn
  have h00 : s₀.heap.get? s.heap.objs.size = none := by
    cases e : s₀.heap.get? s.heap.objs.size with
    | none => rfl
    | some q => obtain ⟨q', hq'⟩ := S.st.live _ _ e; rw [hn] at hq'; cases hq'
  have hz : Z.get? s.heap.objs.size = none := by
    cases e : Z.get? s.heap.objs.size with
    | none => rfl
    | some q => have := S.pin _ _ e; rw [hn] at this; cases this
  have hpk : s.heap.objs.size ∉ pk := fun hm => by obtain ⟨q, hq⟩ := S.lv _ hm; rw [h00] at hq; cases hq
  refine wpAny_Dict_walk (knd := SK w) hall hl h0 hlen (wpAny_mono (x A b { s with heap := s.heap.push { cls := .type "dict", data := .dict #[] } } pos rm S₁.loc) (fun vs s₂ ⟨b₂, kv, st₂, L₂, hc, hp⟩ => ?_) fun _ _ f => f)
  obtain ⟨o, es, ep, ho, q⟩ := Heap.DictOf.new (knd := SK w) s.heap
  have hD2 : s₂.heap.get? s.heap.objs.size = some o := st₂.keep _ _ no ho
  have hb2 : b₂.get? s.heap.objs.size = none := st₂.none nb ⟨_, ho⟩
  refine ⟨kv, hc, ⟨o, es, ep, hD2, q⟩, fun h' hd hs => ?_⟩
  have S₂ := S₁.step st₂ L₂ rfl
  have S₃ := S₂.moved (wr := [s.heap.objs.size]) (h' := h') (k := s₂.toks + vs.length) (fun a z ha e => (hs.2 a (by simpa using ha)).trans e) fun a ha => by rw [List.mem_singleton.mp ha]; exact ⟨hb2, no, np, h00, hz⟩
  exact ⟨b₂, _, _, g _ hpk no, S₃.adopt h00 hb2 no np hz hpk ⟨_, hsys, hd, VRp.merged (acc := []) (av := []) (by simp [VRp]) hp⟩, rfl, st₂.grow⟩

theorem rep_flat {v : Value} : ∀ k : Nat, (List.replicate k [v]).flatten = List.replicate k v
  | 0 => rfl
  | k + 1 => by simp [List.replicate_succ]
theorem VRs.rep {b : Heap} {d : V} {v : Value} (r : VR w b d v) : ∀ k : Nat, VRs w b (List.replicate k d) (List.replicate k v)
  | 0 => by simp [VRs]
  | k + 1 => by simp only [List.replicate_succ, VRs]; exact ⟨r, VRs.rep r k⟩

theorem mulL {A : Around} {E : Value → Shared → Prop} {s : Shared} {l : Addr} {vs : List Value} {x : Int} {u : Tok} {Q : Value → Shared → Prop} (hl : s.heap.IsList l vs.toArray) (hlo : -(2 ^ 63 : Int) ≤ x) (hhi : x < 2 ^ 63) (hsz : vs.length * x.toNat ≤ 2 ^ 24)
    (h : Q (.ref s.heap.objs.size) { s with heap := s.heap.push { cls := .type "list", data := .seq (List.replicate x.toNat vs).flatten.toArray } }) : wpAny (Md w) A (binaryOp .Mult (.ref l) (.int x u)) Q E s := by
  obtain ⟨⟨cls, d, data, sl⟩, ho, hcl, k, hd⟩ := id hl
  simp only at hcl hd
  subst hcl hd
  have hsz' : vs.toArray.size * x.toNat ≤ 2 ^ 24 := by simpa using hsz
  rw [← listMul_foldl_if vs.toArray x.toNat] at h
  exact wpAny_binaryOp_repeat_ref (T := "list") (U := "int") (by decide) ⟨_, ho, rfl⟩ (fun s' => typeIs_int s' x u) noFill_list_mul F.fills_int_mul F.slot_int_rmul repeat_list F.slot_int_index.lookup
    (call_meets F.slot_int_rmul (typeIs_int s x u) F.entry_int_rmul (F.args_int_rmul_2 _ _) (lm_int_rmul_list_any x u l vs.toArray k d sl)
      ⟨ho, rfl, ⟨_, ho, rfl⟩, call_meets F.slot_list_mul ⟨_, ho, rfl⟩ F.entry_list_mul (F.args_list_mul_2 _ _)
        (lm_list_mul_any l vs.toArray k d sl x u (by simp [Builtin.List.listFitsIndex]; (first | assumption | exact Nat.le_of_ble_eq_true rfl | exact Nat.add_le_add_left (Nat.le_of_ble_eq_true rfl) _ | exact Nat.le_trans (by assumption) (Nat.le_of_ble_eq_true rfl) | lia | omega)) (by (first | assumption | exact Nat.le_of_ble_eq_true rfl | exact Nat.add_le_add_left (Nat.le_of_ble_eq_true rfl) _ | exact Nat.le_trans (by assumption) (Nat.le_of_ble_eq_true rfl) | lia | omega)) (by simp [Builtin.List.listTooLong, sizeLine]; (first | assumption | exact Nat.le_of_ble_eq_true rfl | exact Nat.add_le_add_left (Nat.le_of_ble_eq_true rfl) _ | exact Nat.le_trans (by assumption) (Nat.le_of_ble_eq_true rfl) | lia | omega)))
        ⟨ho, h⟩⟩)

/-- [e] * k, in hand -/
theorem Eg.mulNew {l r : Expr} {pos : Pos} {d : V} {k : Nat} {G : V → Own → Prop} (x : Ev w H n env ρ own l (.lst [d]) own₁) (y : Ev w H n env ρ own₁ r (.int k) own₂) (hk : k ≤ 1000)
    (g : ∀ a, a ∉ pk → a ∉ own₂.map (·.1) → G (.raw (.ref a)) ((a, .list (List.replicate k d)) :: own₂)) : Eg w H n pk env (.BinOp l .Mult r pos) ρ own G := fun A o₀ b₀ s₀ Z b s rm S =>
  wpAny_BinOp (wpAny_mono (x.run rm S.loc) (fun u s₁ ⟨b₁, st₁, L₁, r₁⟩ => wpAny_mono (y.run rm L₁) (fun v s₂ ⟨b₂, st₂, L₂, r₂⟩ => by
    obtain ⟨t, rfl⟩ := r₂
    have S₂ := (S.step st₁ L₁ x.1).step st₂ L₂ y.1
    obtain ⟨a, vs, rfl, hl, hv⟩ := seeL L₂ (r₁.mono st₂.grow) (AsL.lst)
    cases vs with
    | nil => simp [VRs] at hv
    | cons v vs =>
    cases vs with
    | cons _ _ => simp [VRs] at hv
    | nil =>
    simp only [VRs] at hv
    refine mulL hl (by (first | assumption | exact Nat.le_of_ble_eq_true rfl | exact Nat.add_le_add_left (Nat.le_of_ble_eq_true rfl) _ | exact Nat.le_trans (by assumption) (Nat.le_of_ble_eq_true rfl) | lia | omega)) (by (first | assumption | exact Nat.le_of_ble_eq_true rfl | exact Nat.add_le_add_left (Nat.le_of_ble_eq_true rfl) _ | exact Nat.le_trans (by assumption) (Nat.le_of_ble_eq_true rfl) | lia | omega)) (by simp; (first | assumption | exact Nat.le_of_ble_eq_true rfl | exact Nat.add_le_add_left (Nat.le_of_ble_eq_true rfl) _ | exact Nat.le_trans (by assumption) (Nat.le_of_ble_eq_true rfl) | lia | omega)) ?_
    rw [show ((k : Nat) : Int).toNat = k by (first | assumption | exact Nat.le_of_ble_eq_true rfl | exact Nat.add_le_add_left (Nat.le_of_ble_eq_true rfl) _ | exact Nat.le_trans (by assumption) (Nat.le_of_ble_eq_true rfl) | lia | omega), rep_flat]
    obtain ⟨S₃, g1, g2⟩ := S₂.gain (O₁ := .list (List.replicate k d)) (k := s₂.toks) (o := { cls := .type "list", data := .seq (List.replicate k v).toArray }) rfl ⟨_, ⟨_, _, Heap.get?_push_size _ rfl, rfl, rfl, rfl⟩, VRs.rep hv.1 k⟩
    exact ⟨b₂, _, _, g _ g1 g2, S₃, rfl, st₁.grow.trans st₂.grow⟩) fun _ _ f => f) fun _ _ f => f)

/-- the script's first items -/
theorem Ev.uptoRaw {value e : Expr} {p pos : Pos} {a : Addr} {vs : List Value} {zs : List Int} {k : Nat} (hl : H.IsList a (List.toArray vs)) (hz : IntsAre vs zs) (x : Ev w H n env ρ o₀ value (.raw (.ref a)) o₁) (y : Ev w H n env ρ o₁ e (.int k) o₂) (hsz : zs.length ≤ 100000) : Ev w H n env ρ o₀ (.Subscript value (.Slice none (some e) none p) pos) (.lst ((zs.take k).map .int)) o₂ :=
  .mk (y.1.trans x.1) fun A b s rm L => sub_slice (wpAny_mono (x.run rm L) (fun u s₁ ⟨b₁, st₁, L₁, r₁⟩ => wpAny_Slice (evalPart_none_step (evalPart_some_step (wpAny_mono (y.run rm L₁) (fun v s₂ ⟨b₂, st₂, L₂, r₂⟩ => evalPart_none_step (by
    obtain ⟨t, rfl⟩ := r₂
    cases r₁
    have e := hz.length
    have hl2 : s₂.heap.IsList a vs.toArray := let ⟨o, ho, q⟩ := hl; ⟨o, L₂.sub _ _ (L₂.base _ _ ho), q⟩
    have hl' : (s₂.heap.push { cls := .type "slice", data := .fields #[.none, .int (k : Int) t, .none] }).IsList a vs.toArray := let ⟨o, ho, q⟩ := hl2; ⟨o, Heap.get?_push_of_some _ ho, q⟩
    refine ⟨"list", _, slot_list_getitem.lookup, hl'.typeIs, wpAny_getItem_list_slice (lo := none) (hi := some (k : Int)) (st := none) hl' (Heap.IsSliceOf.new _ _ _ _) .none (.int _ _) .none (by simp) ?_ (by rw [List.size_toArray, e, sizeLine_eq]; (first | assumption | exact Nat.le_of_ble_eq_true rfl | exact Nat.add_le_add_left (Nat.le_of_ble_eq_true rfl) _ | exact Nat.le_trans (by assumption) (Nat.le_of_ble_eq_true rfl) | lia | omega))⟩
    rw [slicePick_upto']
    have k₁ : Keeps s₂ { s₂ with heap := (s₂.heap.push { cls := .type "slice", data := .fields #[.none, .int (k : Int) t, .none] }).push { cls := .type "list", data := .seq (List.take k vs.toArray.toList).toArray } } := ⟨_, _, rfl, fun b o q => Heap.get?_push_of_some _ (Heap.get?_push_of_some _ q)⟩
    refine Pt.pre st₁ x.1 (Pt.pre st₂ y.1 (Pt.of_keeps (A := A) L₂ k₁ ?_))
    simp only [VR]
    refine ⟨_, vs.take k, rfl, ⟨_, _, growH_new ?_ (Heap.get?_push_size _ rfl), rfl, rfl, rfl⟩, ?_⟩
    · exact get_ge_none (by rw [Heap.size_push]; exact Nat.le_succ _)
    · rw [List.map_take]
      exact (of_ints hz).take k)) fun _ _ f => f)))) fun _ _ f => f)

/-- a class of the program is called -/
theorem Kind.of_makes {C : Addr} (X : K.In H) (h : makesIn K C = true) : Kind H (.ref C) := .cls fun M h' le => by
  unfold makesIn at h
  split at h
  · rename_i oc od cd sl ho
    simp only [Bool.and_eq_true] at h
    obtain ⟨⟨_, hc⟩, _⟩ := h
    refine (Looks.ld (part := none) ((X.keeps le) _ _ ho)).andThen ?_
    exact (looks_specialIn (X.keeps le) (beq_iff_eq.mp hc)).andThen .now
  · cases h
end
end Mine
end
section
open PySem PySem.W PyProof.Rows PySem.MeetsSeq PySem.SeqAt
set_option maxRecDepth 100000
namespace Mine

noncomputable def rot {α : Type} (k : Nat) (l : List α) : List α := l.drop k ++ l.take k
theorem rot_perm {α : Type} {k : Nat} {l : List α} : (rot k l).Perm l := by
  unfold rot
  have := List.perm_append_comm (l₁ := l.drop k) (l₂ := l.take k)
  rwa [List.take_append_drop] at this
theorem rot_map {α β : Type} {f : α → β} {k : Nat} {l : List α} : (rot k l).map f = rot k (l.map f) := by
  unfold rot; rw [List.map_append, List.map_drop, List.map_take]
theorem rot_len {α : Type} {k : Nat} {l : List α} : (rot k l).length = l.length := rot_perm.length_eq

noncomputable def numF (i : Nat) (d : V) : V := .tup [d, .int i]
noncomputable def numsFrom : Nat → List Str → List (Str × V)
  | _, [] => []
  | i, y :: ys => (y, .int i) :: numsFrom (i + 1) ys
theorem nums_keys : ∀ {i : Nat} {ys : List Str}, (numsFrom i ys).map (·.1) = ys
  | _, [] => rfl
  | i, y :: ys => by simp [numsFrom, nums_keys (i := i + 1) (ys := ys)]
theorem nums_pairs : ∀ {i : Nat} {ys : List Str}, mapAt numF i (ys.map .str) = (numsFrom i ys).map fun p => .tup [.str p.1, p.2]
  | _, [] => rfl
  | i, y :: ys => by
    simp only [List.map_cons, mapAt, numsFrom, nums_pairs (i := i + 1) (ys := ys)]
    rfl
theorem look_nums : ∀ {i : Nat} {ys : List Str} {x : Str}, x ∈ ys → lookV (numsFrom i ys) x = some (.int ((i + ys.idxOf x : Nat) : Int))
  | i, y :: ys, x, h => by
    show lookV ((y, V.int i) :: numsFrom (i + 1) ys) x = _
    rw [look_cons]
    by_cases e : y = x
    · rw [if_pos e, e]; simp [List.idxOf_cons]
    · rw [if_neg e]
      have hm : x ∈ ys := by
        rcases List.mem_cons.mp h with h | h
        · exact absurd h.symm e
        · exact h
      rw [look_nums hm]
      have : (y == x) = false := by simpa using e
      rw [List.idxOf_cons, this]
      simp only [cond_false]
      congr 3
      (first | assumption | exact Nat.le_of_ble_eq_true rfl | exact Nat.add_le_add_left (Nat.le_of_ble_eq_true rfl) _ | exact Nat.le_trans (by assumption) (Nat.le_of_ble_eq_true rfl) | lia | omega)
noncomputable def nmOf (ys : List Str) (x : Str) : Int := (ys.idxOf x : Nat)
theorem nums_look {ys : List Str} {x : Str} (h : x ∈ ys) : lookV (numsFrom 0 ys) x = some (.int (nmOf ys x)) := by
  rw [look_nums h, Nat.zero_add]; rfl
theorem nums_put {ys : List Str} (h : ys.Nodup) : putAll [] (numsFrom 0 ys) = numsFrom 0 ys := by
  rw [putAll_new (by rw [List.nil_append, nums_keys]; exact h), List.nil_append]

noncomputable def itF (P : List Lab) : V → V
  | .str x => match findL P x with
    | some l => itemV l
    | none => .int 0
  | _ => .int 0
theorem items_eq {P : List Lab} (hn : (names P).Nodup) : ∀ {Q : List Lab}, (∀ l ∈ Q, l ∈ P) → (((names Q).map V.str).filter fun _ => true).map (itF P) = Q.map itemV
  | [], _ => rfl
  | l :: Q, h => by
    have ih := items_eq hn (Q := Q) fun k hk => h k (.tail _ hk)
    simp only [names, List.map_cons, List.filter_cons, if_true] at ih ⊢
    rw [ih]
    show (match findL P l.name with | some l => itemV l | none => V.int 0) :: _ = _
    rw [findL_mem hn (h l (.head _))]

/-- the instance as it fills -/
structure FillTo (P : List Lab) (hs : HL) (ys : List Str) (insts : List (List Int)) (j : Nat) : Prop where
  len : insts.length = P.length
  iok : InstOk insts
  at_ : ∀ k (hk : k < P.length), k < j → (insts.getD (ys.idxOf P[k].name) []).Perm ((xsOf hs P[k].name).getD [])
theorem FillTo.zero {P : List Lab} {hs : HL} {ys : List Str} : FillTo P hs ys (List.replicate P.length []) 0 :=
  ⟨List.length_replicate, fun l hl => by rw [(List.mem_replicate.mp hl).2]; exact ⟨by simp, fun _ h => nomatch h⟩, fun k hk h => absurd h (Nat.not_lt_zero _)⟩
theorem FillTo.succ {P : List Lab} {hs : HL} {ys : List Str} {insts : List (List Int)} {j : Nat} (h : FillTo P hs ys insts j) (hn : (names P).Nodup) (hy : ys.Perm (names P)) (hj : j < P.length) (ho : HsOk P hs (fun _ => 10)) {xs : List Int} (hx : xsOf hs P[j].name = some xs) : FillTo P hs ys (insts.set (ys.idxOf P[j].name) (isort xs)) (j + 1) := by
  have mem : ∀ k (hk : k < P.length), P[k].name ∈ ys := fun k hk => hy.mem_iff.mpr (List.mem_map_of_mem (f := (·.name)) (List.getElem_mem hk))
  have lt : ∀ k (hk : k < P.length), ys.idxOf P[k].name < insts.length := fun k hk => by
    have h1 := List.idxOf_lt_length_of_mem (mem k hk)
    rw [hy.length_eq, List.length_map] at h1
    rw [h.len]; exact h1
  refine ⟨by rw [List.length_set, h.len], fun l hl => ?_, fun k hk hlt => ?_⟩
  · rcases List.mem_or_eq_of_mem_set hl with h1 | rfl
    · exact h.iok l h1
    · obtain ⟨y, hy', _, e⟩ := xsOf_mem hx
      have hv := ho.vals y hy'
      have hp := isort_perm xs
      refine ⟨by rw [hp.length_eq, ← e]; have := hv.1; (first | assumption | exact Nat.le_of_ble_eq_true rfl | exact Nat.add_le_add_left (Nat.le_of_ble_eq_true rfl) _ | exact Nat.le_trans (by assumption) (Nat.le_of_ble_eq_true rfl) | lia | omega), fun z hz => hv.2 z (by rw [e]; exact hp.mem_iff.mp hz)⟩
  · by_cases e : k = j
    · subst e
      rw [List.getD_eq_getElem?_getD, List.getElem?_set_self (lt k hk), hx]
      exact isort_perm xs
    · have hne : ys.idxOf P[j].name ≠ ys.idxOf P[k].name := fun he => by
        have e1 := List.getElem_idxOf (List.idxOf_lt_length_of_mem (mem j hj))
        have e2 := List.getElem_idxOf (List.idxOf_lt_length_of_mem (mem k hk))
        have e3 : P[j].name = P[k].name := by
          rw [← e1, ← e2]
          simp only [he]
        have h1 : j < (names P).length := by rw [List.length_map]; exact hj
        have h2 : k < (names P).length := by rw [List.length_map]; exact hk
        have := (List.getElem_inj (h₀ := h1) (h₁ := h2) hn).mp (by simpa using e3)
        (first | assumption | exact Nat.le_of_ble_eq_true rfl | exact Nat.add_le_add_left (Nat.le_of_ble_eq_true rfl) _ | exact Nat.le_trans (by assumption) (Nat.le_of_ble_eq_true rfl) | lia | omega)
      rw [List.getD_eq_getElem?_getD, List.getElem?_set_ne hne, ← List.getD_eq_getElem?_getD]
      exact h.at_ k hk (by (first | assumption | exact Nat.le_of_ble_eq_true rfl | exact Nat.add_le_add_left (Nat.le_of_ble_eq_true rfl) _ | exact Nat.le_trans (by assumption) (Nat.le_of_ble_eq_true rfl) | lia | omega))
theorem FillTo.fits {P : List Lab} {hs : HL} {ys : List Str} {insts : List (List Int)} (h : FillTo P hs ys insts P.length) (hy : ys.Perm (names P)) : Fits P hs insts (nmOf ys) where
  iok := h.iok
  lo := fun x hx => by
    have h1 := List.idxOf_lt_length_of_mem (hy.mem_iff.mpr hx)
    rw [hy.length_eq, List.length_map] at h1
    refine ⟨by unfold nmOf; (first | assumption | exact Nat.le_of_ble_eq_true rfl | exact Nat.add_le_add_left (Nat.le_of_ble_eq_true rfl) _ | exact Nat.le_trans (by assumption) (Nat.le_of_ble_eq_true rfl) | lia | omega), ?_⟩
    rw [h.len]; show ((ys.idxOf x : Nat) : Int).toNat < _
    (first | assumption | exact Nat.le_of_ble_eq_true rfl | exact Nat.add_le_add_left (Nat.le_of_ble_eq_true rfl) _ | exact Nat.le_trans (by assumption) (Nat.le_of_ble_eq_true rfl) | lia | omega)
  perm := fun x hx => by
    obtain ⟨l, hl, rfl⟩ := List.mem_map.mp hx
    obtain ⟨k, hk, rfl⟩ := List.mem_iff_getElem.mp hl
    show (insts.getD ((ys.idxOf P[k].name : Nat) : Int).toNat []).Perm _
    rw [show ((ys.idxOf P[k].name : Nat) : Int).toNat = ys.idxOf P[k].name by (first | assumption | exact Nat.le_of_ble_eq_true rfl | exact Nat.add_le_add_left (Nat.le_of_ble_eq_true rfl) _ | exact Nat.le_trans (by assumption) (Nat.le_of_ble_eq_true rfl) | lia | omega)]
    exact h.at_ k hk hk
end Mine
end
section
open PySem PySem.W PyProof.Rows PySem.MeetsSeq PySem.SeqAt
set_option maxRecDepth 100000
namespace Mine

/-- all that the law's text finds -/
structure LawK (H : Heap) (K : Frag) (mg mb : Str → Option Value) : Prop where
  Gv : Gl H mg mb
  Bl : Blts mg mb
  X : K.In H
  draw : ∃ f, Has H mg "_law_draw" (top 52) f
  plan : ∃ f, Has H mg "_law_plan" (top 53) f
  below : ∃ f, Has H mg "_law_below" (top 54) f
  world : ∃ f, Has H mg "_law_world" (top 55) f
  placed : ∃ f, Has H mg "_law_is_placed" (top 56) f
  parted : ∃ f, Has H mg "_law_is_parted" (top 57) f
  hold : ∃ f, Has H mg "_law_hold" (top 58) f
  rel : ∃ f, Has H mg "relation" (top 4) f
  place : ∃ f, Has H mg "place_formulas" (top 5) f
  childf : ∃ f, Has H mg "children_formulas" (top 6) f
  uni : ∃ f, Has H mg "united_implicit" (top 2) f
  ev : ∃ C, EvC H K mg C ∧ mg "Evaluator" = some (.ref C)
  sig : ∃ C, SigC H K mg C ∧ mg "Signatures" = some (.ref C)
  op : ∃ C f cc cda f2, OpAt H K C f cc cda f2 ∧ mg "Opener" = some (.ref C)

structure LwR (ρ : Names) (fa : Addr) (P : List Lab) (ys : List Str) (sg op : V) : Prop where
  feed : ρ "feed" = some (.raw (.ref fa))
  plan : ρ "plan" = some (.dct (planV P))
  row : ρ "row" = some (.lst ((names P).map .str))
  numbers : ρ "numbers" = some (.dct (numsFrom 0 ys))
  signatures : ρ "signatures" = some sg
  opener : ρ "opener" = some op

noncomputable def oneF (d : V) : V := .tup [d]
theorem ones_eq {xs : List Int} : ((xs.map V.int).filter fun _ => true).map oneF = xs.map one := by
  rw [List.filter_eq_self.mpr fun _ _ => rfl, List.map_map]; rfl

noncomputable abbrev lapB : List Stmt := loopOf (top 59).2.1[7]?

section
variable {w : World} {H Z : Heap} {n : Nat} {pk : List Addr} {env : Env} {ρ ρc : Names} {o₀ o₁ o₂ o₃ own own₁ own₂ F : Own} {N : Names → Own → Prop} {R : V → Own → Prop} {sts : List Stmt} {st : Stmt} {mg mb : Str → Option Value} {K : Frag}

theorem fill_body {ia L f : Addr} {q : Str} {cd : Value} {r : Own} {hs : HL} {ys : List Str} {x : Str} {xs : List Int} {insts : List (List Int)} (Lk : LawK H K mg mb) (h1 : ρ "label" = some (.str x)) (h2 : ρ "has" = some (.dct (hasV hs))) (h3 : ρ "numbers" = some (.dct (numsFrom 0 ys))) (h4 : ρ "instance" = some (.raw (.ref ia)))
    (hx : x ∈ ys) (hxs : xsOf hs x = some xs) (hl : xs.length ≤ 10) (hi : ys.idxOf x < insts.length) (hil : insts.length ≤ 100) (hN : N ρ ((ia, .list ((insts.set (ys.idxOf x) (isort xs)).map setV)) :: r)) :
    Sx w H (n + 1) pk (fenv (top 59).2.2 L f q cd) (loopOf lapB[2]?) ρ ((ia, .list (insts.map setV)) :: r) N R := by
  have Gv := Lk.Gv
  have Bl := Lk.Bl
  have hsl : (isort xs).length ≤ 10 := by rw [(isort_perm xs).length_eq]; exact hl
  refine Sx.cons (S1.setL (Eg.of (Ev.call (o₁ := []) (o₂ := []) (o₃ := []) (r := (ia, .list (insts.map setV)) :: r) (Ev.blt Gv (by rfl) Bl.tuple.1 Bl.tuple.2) (Es.cons (Ev.cast (d' := .lst ((isort xs).map one)) (Ev.comp (F := []) (x := "atom") (Src.of (Ev.call (o₁ := []) (o₂ := []) (o₃ := []) (r := (ia, .list (insts.map setV)) :: r) (Ev.blt Gv (by rfl) Bl.sorted.1 Bl.sorted.2) (Es.cons (Ev.sub (Ev.name h2) (Ev.name h1) (Op2.subDct .dct (d := .lst (xs.map .int)) (by rw [look_hasV, hxs]; rfl))) Es.nil) (.builtin _) (Fn.sortedI .lst (by (first | assumption | exact Nat.le_of_ble_eq_true rfl | exact Nat.add_le_add_left (Nat.le_of_ble_eq_true rfl) _ | exact Nat.le_trans (by assumption) (Nat.le_of_ble_eq_true rfl) | lia | omega)))) (Itr.lst .lst) (List.nil_sublist _)) (List.nil_sublist _) (p := fun _ => true) (f := oneF) (ρc := capρ [])
      ⟨CompOk.of (by (first | kernel_rfl | decide +kernel)), by rw [List.length_map]; (first | assumption | exact Nat.le_of_ble_eq_true rfl | exact Nat.add_le_add_left (Nat.le_of_ble_eq_true rfl) _ | exact Nat.le_trans (by assumption) (Nat.le_of_ble_eq_true rfl) | lia | omega), CapL.cap .nil, .inl rfl, fun C okc d hd => Tst.nil, fun C okc d hd _ => Ev.tuple (Es.cons (Ev.name (by rfl)) Es.nil)⟩) (congrArg V.lst ones_eq)) Es.nil) (.type _) (Fn.tupleL .lst (by rw [List.length_map]; (first | assumption | exact Nat.le_of_ble_eq_true rfl | exact Nat.add_le_add_left (Nat.le_of_ble_eq_true rfl) _ | exact Nat.le_trans (by assumption) (Nat.le_of_ble_eq_true rfl) | lia | omega))))
    ⟨ia, nmOf ys x, insts.map setV, [], r, _, Ev.name h4, Ev.sub (Ev.name h3) (Ev.name h1) (Op2.subDct .dct (nums_look hx)), by unfold nmOf; (first | assumption | exact Nat.le_of_ble_eq_true rfl | exact Nat.add_le_add_left (Nat.le_of_ble_eq_true rfl) _ | exact Nat.le_trans (by assumption) (Nat.le_of_ble_eq_true rfl) | lia | omega), by rw [List.length_map]; unfold nmOf; (first | assumption | exact Nat.le_of_ble_eq_true rfl | exact Nat.add_le_add_left (Nat.le_of_ble_eq_true rfl) _ | exact Nat.le_trans (by assumption) (Nat.le_of_ble_eq_true rfl) | lia | omega), by rw [List.length_map]; (first | assumption | exact Nat.le_of_ble_eq_true rfl | exact Nat.add_le_add_left (Nat.le_of_ble_eq_true rfl) _ | exact Nat.le_trans (by assumption) (Nat.le_of_ble_eq_true rfl) | lia | omega), Sx.nil ?_⟩))
  rw [List.map_set] at hN
  exact hN
end
end Mine
end
section
open PySem PySem.W PyProof.Rows PySem.MeetsSeq PySem.SeqAt
set_option maxRecDepth 100000
namespace Mine

section
variable {w : World} {H Z : Heap} {n : Nat} {pk : List Addr} {env : Env} {ρ ρc : Names} {o₀ o₁ o₂ o₃ own own₁ own₂ F : Own} {N : Names → Own → Prop} {R : V → Own → Prop} {sts : List Stmt} {st : Stmt} {mg mb : Str → Option Value} {K : Frag}

theorem pair_count {m : Nat} (hm : m ≤ 100) : ((m : Int) * ((m : Int) - 1)).fdiv 2 = ((m * (m - 1) / 2 : Nat) : Int) := by
  have e : (m : Int) * ((m : Int) - 1) = ((m * (m - 1) : Nat) : Int) := by
    cases m with
    | zero => rfl
    | succ k => simp only [Nat.add_sub_cancel]; push_cast; congr 1; (first | assumption | exact Nat.le_of_ble_eq_true rfl | exact Nat.add_le_add_left (Nat.le_of_ble_eq_true rfl) _ | exact Nat.le_trans (by assumption) (Nat.le_of_ble_eq_true rfl) | lia | omega)
  rw [e, Int.fdiv_eq_ediv_of_nonneg _ (by decide)]; (first | assumption | exact Nat.le_of_ble_eq_true rfl | exact Nat.add_le_add_left (Nat.le_of_ble_eq_true rfl) _ | exact Nat.le_trans (by assumption) (Nat.le_of_ble_eq_true rfl) | lia | omega)

/-- a and b, a a truth value -/
theorem Ev.and2 {e f : Expr} {pos : Pos} {a c : Bool} (x : Ev w H n env ρ own e (.raw (.bool a)) own) (y : Ev w H n env ρ own f (.raw (.bool c)) own) : Ev w H n env ρ own (.BoolOp .And [e, f] pos) (.raw (.bool (a && c))) own := by
  cases a with
  | true => exact Ev.andT x Tru.bool y
  | false => exact Ev.andF x Tru.bool

theorem check_body {fa L f : Addr} {q : Str} {cd : Value} {r : Own} {P Q : List Lab} {xs : List Str} {hs : HL} {ys : List Str} {l : Lab} {insts : List (List Int)} {CS CO CE : Addr} (Lk : LawK H K mg mb) (S : SigC H K mg CS) (hop : InstCls K CO opAttrs) (E : EvC H K mg CE)
    (hr : LwR ρ fa P ys (sigV CS Q xs) (opV CO (sigV CS Q xs) Q (numsFrom 0 ys))) (hW : Wf P) (hP : P.length ≤ 8) (hQ : Q.Perm P) (hy : ys.Perm (names P)) (ho : HsOk P hs (fun _ => 10)) (hF : Fits P hs insts (nmOf ys)) (hil : insts.length ≤ 100) (hl : l ∈ P)
    (h1 : ρ "label" = some (.str l.name)) (h2 : ρ "has" = some (.dct (hasV hs))) (h3 : ρ "evaluator" = some (evV CE insts))
    (hN : ∀ ρ', LwR ρ' fa P ys (sigV CS Q xs) (opV CO (sigV CS Q xs) Q (numsFrom 0 ys)) → ρ' "has" = some (.dct (hasV hs)) → ρ' "evaluator" = some (evV CE insts) → N ρ' r) :
    Sx w H (n + 90) pk (fenv (top 59).2.2 L f q cd) (loopOf lapB[4]?) ρ r N R := by
  have Gv := Lk.Gv
  have Bl := Lk.Bl
  have X₀ := Lk.X
  obtain ⟨fb, Hb⟩ := Lk.below
  obtain ⟨fp, Hp⟩ := Lk.placed
  obtain ⟨fq, Hq⟩ := Lk.parted
  obtain ⟨fh, Hh⟩ := Lk.hold
  obtain ⟨frl, Hr⟩ := Lk.rel
  obtain ⟨fpl, Hpl⟩ := Lk.place
  obtain ⟨fc, Hc⟩ := Lk.childf
  obtain ⟨fu, Hu⟩ := Lk.uni
  have hQo : QOk Q := QOk.of hW hQ hP
  have hlQ : l ∈ Q := hQ.mem_iff.mpr hl
  have nQ : ∀ {y}, y ∈ names Q ↔ y ∈ names P := fun {y} => (hQ.map (·.name)).mem_iff
  have hsS : SigOk [] (.ins CS (fs4 Q xs)) CS (fs4 Q xs) (.dct (entV Q)) Q := ⟨.inl rfl, by rfl, rfl, .dct, hQo.nd⟩
  have O : OpOk K (opV CO (sigV CS Q xs) Q (numsFrom 0 ys)) CO (fsO (sigV CS Q xs) Q (numsFrom 0 ys)) (numsFrom 0 ys) (nmOf ys) (names Q) := ⟨rfl, hop.ok, (hop.at_ "numbers" (by (first | kernel_rfl | decide +kernel))).1, by rfl, fun x hx => nums_look (hy.mem_iff.mpr (nQ.mp hx))⟩
  have hpl := place_law hF hW hl
  have hpt := part_law hF hW hQ ho hl
  have hQl : Q.length ≤ 10 := hQo.len
  have hpar : l.parent = ("" : Str) ∨ l.parent ∈ names Q := by
    rcases hQo.par l hlQ with e | ⟨k, hk, e, _⟩
    · exact .inl e
    · exact .inr (e ▸ List.mem_map_of_mem (f := (·.name)) hk)
  have hbl : (below P l.name).length ≤ 8 := by unfold below; rw [List.length_map]; exact Nat.le_trans (List.length_filter_le _ _) hP
  have lenP := place_len (nm := nmOf ys) (hW.mark l hl)
  have lenQ := part_len (nm := nmOf ys) (Q := Q) (l := l) hW hQ
  have bp : (placeF (nmOf ys) l).length ≤ 3 := by rw [lenP]; split <;> split <;> split <;> (first | assumption | exact Nat.le_of_ble_eq_true rfl | exact Nat.add_le_add_left (Nat.le_of_ble_eq_true rfl) _ | exact Nat.le_trans (by assumption) (Nat.le_of_ble_eq_true rfl) | lia | omega)
  have bq : (partF (nmOf ys) Q l).length ≤ 100 := by
    rw [lenQ]
    have : (below P l.name).length * ((below P l.name).length - 1) ≤ 8 * 7 := Nat.mul_le_mul hbl (by (first | assumption | exact Nat.le_of_ble_eq_true rfl | exact Nat.add_le_add_left (Nat.le_of_ble_eq_true rfl) _ | exact Nat.le_trans (by assumption) (Nat.le_of_ble_eq_true rfl) | lia | omega))
    split <;> (first | assumption | exact Nat.le_of_ble_eq_true rfl | exact Nat.add_le_add_left (Nat.le_of_ble_eq_true rfl) _ | exact Nat.le_trans (by assumption) (Nat.le_of_ble_eq_true rfl) | lia | omega)
  refine Sx.cons (S1.tupS (names := ["lying", "parted"]) (Eg.tuple (Egs.cons (Eg.of (Ev.call (o₁ := []) (o₂ := []) (o₃ := []) (r := r) (Ev.glob Gv (by rfl) Hpl.nm) (Es.cons (Ev.name hr.signatures) (Es.cons (Ev.name hr.opener) (Es.cons (Ev.name h1) Es.nil))) Hpl.kind ((place_fn (n := n) (s := .int 0) (nm := nmOf ys) Gv Bl X₀ S Hpl.at_ Hr Hu hsS ⟨by rfl, by rfl, by rfl⟩ O hlQ hpar (hQo.parts l hlQ) (hQo.pl l hlQ)).le (by (first | assumption | exact Nat.le_of_ble_eq_true rfl | exact Nat.add_le_add_left (Nat.le_of_ble_eq_true rfl) _ | exact Nat.le_trans (by assumption) (Nat.le_of_ble_eq_true rfl) | lia | omega))))
    (Egs.cons (Eg.of (Ev.call (o₁ := []) (o₂ := []) (o₃ := []) (r := r) (Ev.glob Gv (by rfl) Hc.nm) (Es.cons (Ev.name hr.signatures) (Es.cons (Ev.name hr.opener) (Es.cons (Ev.name h1) Es.nil))) Hc.kind ((childf_fn (n := n) (nm := nmOf ys) Gv Bl X₀ S Hc.at_ Hr Hu hsS ⟨by rfl, by rfl, by rfl⟩ (by rfl) O hlQ hQl).le (by (first | assumption | exact Nat.le_of_ble_eq_true rfl | exact Nat.add_le_add_left (Nat.le_of_ble_eq_true rfl) _ | exact Nat.le_trans (by assumption) (Nat.le_of_ble_eq_true rfl) | lia | omega)))) (Egs.nil ⟨by simp, _, rfl, rfl, ?_⟩)))))) (st2 (.inl (by rfl)) (.inl (by rfl))))
  change Sx w H (n + 90) pk _ _ (upd (upd ρ "parted" (.lst ((partF (nmOf ys) Q l).map Fo.v))) "lying" (.lst ((placeF (nmOf ys) l).map Fo.v))) r N R
  refine Sx.cons (S1.assign (d := .int (below P l.name).length) (Ev.cast (Ev.call (o₁ := []) (o₂ := []) (o₃ := []) (r := r) (Ev.blt Gv (by rfl) Bl.len.1 Bl.len.2) (Es.cons (Ev.below (n := n + 89) Gv Hb hW (by (first | assumption | exact Nat.le_of_ble_eq_true rfl | exact Nat.add_le_add_left (Nat.le_of_ble_eq_true rfl) _ | exact Nat.le_trans (by assumption) (Nat.le_of_ble_eq_true rfl) | lia | omega)) (by rfl) hr.plan h1) Es.nil) (.builtin _) (Fn.lenL .lst (by rw [List.length_map]; (first | assumption | exact Nat.le_of_ble_eq_true rfl | exact Nat.add_le_add_left (Nat.le_of_ble_eq_true rfl) _ | exact Nat.le_trans (by assumption) (Nat.le_of_ble_eq_true rfl) | lia | omega)))) (by rw [List.length_map])) (.inl (by rfl)) ?_)
  generalize hρ : upd (upd (upd ρ "parted" (.lst ((partF (nmOf ys) Q l).map Fo.v))) "lying" (.lst ((placeF (nmOf ys) l).map Fo.v))) "many" (.int (below P l.name).length) = ρ1
  have g1 : ρ1 "plan" = some (.dct (planV P)) := by rw [← hρ]; exact hr.plan
  have g2 : ρ1 "label" = some (.str l.name) := by rw [← hρ]; exact h1
  have g3 : ρ1 "has" = some (.dct (hasV hs)) := by rw [← hρ]; exact h2
  have g4 : ρ1 "evaluator" = some (evV CE insts) := by rw [← hρ]; exact h3
  have g5 : ρ1 "lying" = some (.lst ((placeF (nmOf ys) l).map Fo.v)) := by rw [← hρ]; rfl
  have g6 : ρ1 "parted" = some (.lst ((partF (nmOf ys) Q l).map Fo.v)) := by rw [← hρ]; rfl
  have g7 : ρ1 "many" = some (.int (below P l.name).length) := by rw [← hρ]; rfl
  have g8 : LwR ρ1 fa P ys (sigV CS Q xs) (opV CO (sigV CS Q xs) Q (numsFrom 0 ys)) := by
    rw [← hρ]; exact ⟨hr.feed, hr.plan, hr.row, hr.numbers, hr.signatures, hr.opener⟩
  have lab : ∀ {k : Int} {d : V} {p1 p2 p3 p4 p5 : Pos}, 0 ≤ k → k < 9 → [V.str l.parent, .tup (l.parts.map .str), .raw (.bool l.hollow), .str l.mark][k.toNat]? = some d → Ev w H (n + 90) (fenv (top 59).2.2 L f q cd) ρ1 r (.Subscript (.Subscript (.Name "plan" p1) (.Name "label" p2) p3) (.Constant (.int k) 0 p4) p5) d r := fun k0 k9 hx =>
    Ev.sub (Ev.sub (Ev.name g1) (Ev.name g2) (Op2.subDct .dct (hW.look hl))) Ev.constInt (Op2.subTup k0 hx (by (first | assumption | exact Nat.le_of_ble_eq_true rfl | exact Nat.add_le_add_left (Nat.le_of_ble_eq_true rfl) _ | exact Nat.le_trans (by assumption) (Nat.le_of_ble_eq_true rfl) | lia | omega)))
  have toInt : ∀ {e : Expr} {c : Bool} {p1 p2 : Pos} (hp : ∀ pos, (backTo pos (starEach [e] (fenv (top 59).2.2 L f q cd))).any (·.1) = false) (hq : ∀ pos, backTo pos (starEach [e] (fenv (top 59).2.2 L f q cd)) = (false, eval e (fenv (top 59).2.2 L f q cd)) :: backTo pos (starEach [] (fenv (top 59).2.2 L f q cd))) (he : eval (.Call (.Name "int" p1) [e] [] p2) (fenv (top 59).2.2 L f q cd) = (do callWith p2 (← eval (.Name "int" p1) (fenv (top 59).2.2 L f q cd)) [] (backTo p2 (starEach [e] (fenv (top 59).2.2 L f q cd))) (backToKw p2 (keywordEach [] (fenv (top 59).2.2 L f q cd))))), Ev w H (n + 90) (fenv (top 59).2.2 L f q cd) ρ1 r e (.raw (.bool c)) r → Ev w H (n + 90) (fenv (top 59).2.2 L f q cd) ρ1 r (.Call (.Name "int" p1) [e] [] p2) (.int (if c then 1 else 0)) r := fun hp hq he v =>
    Ev.call (o₁ := []) (o₂ := []) (o₃ := []) (r := r) (Ev.blt Gv (by rfl) Bl.int.1 Bl.int.2) (Es.cons v Es.nil hq) (.type _) Fn.intBool hp he
  refine Sx.cons (S1.skip (Te.cast (Te.cmp (Ev.call (o₁ := []) (o₂ := []) (o₃ := []) (r := r) (Ev.blt Gv (by rfl) Bl.len.1 Bl.len.2) (Es.cons (Ev.name g5) Es.nil) (.builtin _) (Fn.lenL .lst (by rw [List.length_map]; (first | assumption | exact Nat.le_of_ble_eq_true rfl | exact Nat.add_le_add_left (Nat.le_of_ble_eq_true rfl) _ | exact Nat.le_trans (by assumption) (Nat.le_of_ble_eq_true rfl) | lia | omega))))
    (Ev.binop (Ev.binop (toInt (by intro _; rfl) (by intro _; rfl) (by rfl) (Ev.cmp (lab (by decide) (by decide) rfl) Ev.constStr Op2.neStr)) (toInt (by intro _; rfl) (by intro _; rfl) (by rfl) (Ev.cmp (lab (by decide) (by decide) rfl) (Ev.tuple Es.nil) Op2.neTupNil)) Op2.addInt) (toInt (by intro _; rfl) (by intro _; rfl) (by rfl) (Ev.cmp (lab (by decide) (by decide) rfl) Ev.constStr Op2.neStr)) Op2.addInt) Op2.neInt) ?_) ?_)
  · rw [List.length_map, lenP, List.isEmpty_map]
    cases l.parent != ("" : Str) <;> cases l.parts.isEmpty <;> cases l.mark != ("" : Str) <;> rfl
  refine Sx.cons (S1.skip (Te.cast (Te.cmp (Ev.call (o₁ := []) (o₂ := []) (o₃ := []) (r := r) (Ev.blt Gv (by rfl) Bl.len.1 Bl.len.2) (Es.cons (Ev.name g6) Es.nil) (.builtin _) (Fn.lenL .lst (by rw [List.length_map]; (first | assumption | exact Nat.le_of_ble_eq_true rfl | exact Nat.add_le_add_left (Nat.le_of_ble_eq_true rfl) _ | exact Nat.le_trans (by assumption) (Nat.le_of_ble_eq_true rfl) | lia | omega))))
    (Ev.binop (Ev.binop (Ev.binop (Ev.name g7) (Ev.binop (Ev.name g7) Ev.constInt Op2.subInt) (Op2.mulInt (.of_left (intBits_le_64 (by omega) (by omega))))) Ev.constInt (Op2.divInt (by decide) (by rfl))) (toInt (by intro _; rfl) (by intro _; rfl) (by rfl) (Ev.and2 (lab (by decide) (by decide) rfl) (Ev.cmp (Ev.name g7) Ev.constInt Op2.gtInt))) Op2.addInt) Op2.neInt) ?_) ?_)
  · rw [List.length_map, lenQ, pair_count (by (first | assumption | exact Nat.le_of_ble_eq_true rfl | exact Nat.add_le_add_left (Nat.le_of_ble_eq_true rfl) _ | exact Nat.le_trans (by assumption) (Nat.le_of_ble_eq_true rfl) | lia | omega))]
    have e1 : decide ((0 : Int) < ((below P l.name).length : Int)) = decide (0 < (below P l.name).length) := by rw [Bool.eq_iff_iff, decide_eq_true_iff, decide_eq_true_iff]; (first | assumption | exact Nat.le_of_ble_eq_true rfl | exact Nat.add_le_add_left (Nat.le_of_ble_eq_true rfl) _ | exact Nat.le_trans (by assumption) (Nat.le_of_ble_eq_true rfl) | lia | omega)
    rw [e1]
    cases l.hollow && decide (0 < (below P l.name).length) <;> simp
  have hold : ∀ {fs : List Fo}, (∀ φ ∈ fs, φ.ok insts.length ∧ φ.h ≤ 60) → fs.length ≤ 1000 → Fn w H (n + 90) (.ref fh) [] [evV CE insts, .lst (fs.map Fo.v)] (.raw (.bool (fs.all (Fo.sem insts)))) [] := fun h1 h2 =>
    (hold_fn (n := n) (k := 60) Gv Bl X₀ E Hh.at_ hF.iok hil h1 h2).le (by (first | assumption | exact Nat.le_of_ble_eq_true rfl | exact Nat.add_le_add_left (Nat.le_of_ble_eq_true rfl) _ | exact Nat.le_trans (by assumption) (Nat.le_of_ble_eq_true rfl) | lia | omega))
  refine Sx.cons (S1.skip (Te.cast (Te.cmp (Ev.call (o₁ := []) (o₂ := []) (o₃ := []) (r := r) (Ev.glob Gv (by rfl) Hh.nm) (Es.cons (Ev.name g4) (Es.cons (Ev.name g5) Es.nil)) Hh.kind (hold (fun φ hφ => ⟨hpl.2 φ hφ, place_h (hW.parts_len l hl) φ hφ⟩) (by (first | assumption | exact Nat.le_of_ble_eq_true rfl | exact Nat.add_le_add_left (Nat.le_of_ble_eq_true rfl) _ | exact Nat.le_trans (by assumption) (Nat.le_of_ble_eq_true rfl) | lia | omega))))
    (Ev.call (o₁ := []) (o₂ := []) (o₃ := []) (r := r) (Ev.glob Gv (by rfl) Hp.nm) (Es.cons (Ev.name g1) (Es.cons (Ev.name g3) (Es.cons (Ev.name g2) Es.nil))) Hp.kind ((placed_fn (n := n) Gv Bl Hp.at_ hW hP hl ho).le (by (first | assumption | exact Nat.le_of_ble_eq_true rfl | exact Nat.add_le_add_left (Nat.le_of_ble_eq_true rfl) _ | exact Nat.le_trans (by assumption) (Nat.le_of_ble_eq_true rfl) | lia | omega)))) Op2.neBool) ?_) ?_)
  · rw [hpl.1]; cases placedS P hs l <;> rfl
  refine Sx.cons (S1.skip (Te.cast (Te.cmp (Ev.call (o₁ := []) (o₂ := []) (o₃ := []) (r := r) (Ev.glob Gv (by rfl) Hh.nm) (Es.cons (Ev.name g4) (Es.cons (Ev.name g6) Es.nil)) Hh.kind (hold (fun φ hφ => ⟨(hpt.2 φ hφ).1, (hpt.2 φ hφ).2 hQl⟩) (by (first | assumption | exact Nat.le_of_ble_eq_true rfl | exact Nat.add_le_add_left (Nat.le_of_ble_eq_true rfl) _ | exact Nat.le_trans (by assumption) (Nat.le_of_ble_eq_true rfl) | lia | omega))))
    (Ev.call (o₁ := []) (o₂ := []) (o₃ := []) (r := r) (Ev.glob Gv (by rfl) Hq.nm) (Es.cons (Ev.name g1) (Es.cons (Ev.name g3) (Es.cons (Ev.name g2) Es.nil))) Hq.kind ((parted_fn (n := n) Gv Bl Hq.at_ Hb hW hP hl ho).le (by (first | assumption | exact Nat.le_of_ble_eq_true rfl | exact Nat.add_le_add_left (Nat.le_of_ble_eq_true rfl) _ | exact Nat.le_trans (by assumption) (Nat.le_of_ble_eq_true rfl) | lia | omega)))) Op2.neBool) ?_) (Sx.nil (hN ρ1 g8 g3 g4)))
  · rw [hpt.1]; cases partedS P hs l <;> rfl
end
end Mine
end
section
open PySem PySem.W PyProof.Rows PySem.MeetsSeq PySem.SeqAt
set_option maxRecDepth 100000
namespace Mine

section
variable {w : World} {H Z : Heap} {n : Nat} {pk : List Addr} {env : Env} {ρ ρc : Names} {o₀ o₁ o₂ o₃ own own₁ own₂ F : Own} {N : Names → Own → Prop} {R : V → Own → Prop} {sts : List Stmt} {st : Stmt} {mg mb : Str → Option Value} {K : Frag}

/-- one lap -/
theorem lap_body {fa L f : Addr} {q : Str} {cd : Value} {P Q : List Lab} {xs : List Str} {ys : List Str} {cs : List Int} {s : Nat} {CS CO CE : Addr} (Lk : LawK H K mg mb) (S : SigC H K mg CS) (hop : InstCls K CO opAttrs) (E : EvC H K mg CE) (hE : mg "Evaluator" = some (.ref CE))
    (hr : LwR ρ fa P ys (sigV CS Q xs) (opV CO (sigV CS Q xs) Q (numsFrom 0 ys))) (hW : Wf P) (hP : P.length ≤ 8) (hP0 : 0 < P.length) (hQ : Q.Perm P) (hy : ys.Perm (names P)) (hs0 : s ≤ 1000) (hc : cs.length ≤ 1000) (hpk : ∀ a, a ∉ pk → a ∉ [fa] → a ∉ pk)
    (hN : ∀ ρ' s', LwR ρ' fa P ys (sigV CS Q xs) (opV CO (sigV CS Q xs) Q (numsFrom 0 ys)) → s' ≤ s + 80 → N ρ' [(fa, .dict (feedV cs s'))]) :
    Sx w H (n + 90) pk (fenv (top 59).2.2 L f q cd) lapB ρ [(fa, .dict (feedV cs s))] N R := by
  have Gv := Lk.Gv
  have Bl := Lk.Bl
  have X₀ := Lk.X
  obtain ⟨fd, Hd⟩ := Lk.draw
  obtain ⟨fb, Hb⟩ := Lk.below
  obtain ⟨fw, Hw⟩ := Lk.world
  refine Sx.cons (S1.assignG (Eg.call (o₁ := [(fa, .dict (feedV cs s))]) (o₂ := [(fa, .dict (feedV cs s))]) (r := []) (Ev.glob Gv (by rfl) Hw.nm) (Es.cons (Ev.name hr.feed) (Es.cons (Ev.name hr.plan) Es.nil)) Hw.kind (Fr'.mono ((world_fn (n := n) Gv Bl Hw.at_ Hd Hb hW hP hP0 hs0 hc).le (by (first | assumption | exact Nat.le_of_ble_eq_true rfl | exact Nat.add_le_add_left (Nat.le_of_ble_eq_true rfl) _ | exact Nat.le_trans (by assumption) (Nat.le_of_ble_eq_true rfl) | lia | omega))) fun d o ⟨hs, s', ho, hs', e1, e2⟩ => ?_)) (.inl (by rfl)))
  subst e1 e2
  rw [List.append_nil]
  have hr1 : LwR (upd ρ "has" (.dct (hasV hs))) fa P ys (sigV CS Q xs) (opV CO (sigV CS Q xs) Q (numsFrom 0 ys)) := ⟨hr.feed, hr.plan, hr.row, hr.numbers, hr.signatures, hr.opener⟩
  have hh1 : upd ρ "has" (.dct (hasV hs)) "has" = some (.dct (hasV hs)) := by rfl
  generalize upd ρ "has" (.dct (hasV hs)) = ρ1 at hr1 hh1
  refine Sx.cons (S1.assignG (Eg.mulNew (d := .tup []) (k := P.length) (Ev.list (Es.cons (Ev.tuple Es.nil) Es.nil)) (Ev.cast (Ev.call (o₁ := []) (o₂ := []) (o₃ := []) (r := [(fa, .dict (feedV cs s'))]) (Ev.blt Gv (by rfl) Bl.len.1 Bl.len.2) (Es.cons (Ev.name hr1.row) Es.nil) (.builtin _) (Fn.lenL .lst (by rw [List.length_map, List.length_map]; (first | assumption | exact Nat.le_of_ble_eq_true rfl | exact Nat.add_le_add_left (Nat.le_of_ble_eq_true rfl) _ | exact Nat.le_trans (by assumption) (Nat.le_of_ble_eq_true rfl) | lia | omega)))) (by rw [List.length_map, List.length_map])) (by (first | assumption | exact Nat.le_of_ble_eq_true rfl | exact Nat.add_le_add_left (Nat.le_of_ble_eq_true rfl) _ | exact Nat.le_trans (by assumption) (Nat.le_of_ble_eq_true rfl) | lia | omega)) fun ia hi1 hi2 => ?_) (.inl (by rfl)))
  have hr2 : LwR (upd ρ1 "instance" (.raw (.ref ia))) fa P ys (sigV CS Q xs) (opV CO (sigV CS Q xs) Q (numsFrom 0 ys)) := ⟨hr1.feed, hr1.plan, hr1.row, hr1.numbers, hr1.signatures, hr1.opener⟩
  have hh2 : upd ρ1 "instance" (.raw (.ref ia)) "has" = some (.dct (hasV hs)) := hh1
  have hi3 : upd ρ1 "instance" (.raw (.ref ia)) "instance" = some (.raw (.ref ia)) := by rfl
  generalize upd ρ1 "instance" (.raw (.ref ia)) = ρ2 at hr2 hh2 hi3
  have e0 : List.replicate P.length (V.tup []) = (List.replicate P.length ([] : List Int)).map setV := by rw [List.map_replicate]; rfl
  rw [e0]
  have hnP : (names P).length = P.length := by rw [List.length_map]
  refine Sx.cons (S1.for (ds := (names P).map .str) (fun j ρ' own' => ∃ insts, LwR ρ' fa P ys (sigV CS Q xs) (opV CO (sigV CS Q xs) Q (numsFrom 0 ys)) ∧ ρ' "has" = some (.dct (hasV hs)) ∧ ρ' "instance" = some (.raw (.ref ia)) ∧ FillTo P hs ys insts j ∧ own' = [(ia, .list (insts.map setV)), (fa, .dict (feedV cs s'))])
    (Src.cast (Src.of (Ev.name hr2.plan) (Itr.dct .dct) (List.nil_sublist _)) (by rw [keys_plan]; simp [names])) (.inl (by rfl)) ⟨_, hr2, hh2, hi3, FillTo.zero, rfl⟩ ?_ ?_)
  · rintro j d hd ρ' own' ⟨insts, g1, g2, g3, g4, rfl⟩
    have hj : j < P.length := by have := (List.getElem?_eq_some_iff.mp hd).1; simpa using this
    have hd' : d = .str P[j].name := by
      rw [List.getElem?_map, List.getElem?_map, List.getElem?_eq_getElem hj] at hd
      exact (Option.some.inj hd).symm
    subst hd'
    have hm : P[j].name ∈ names P := List.mem_map_of_mem (f := (·.name)) (List.getElem_mem hj)
    obtain ⟨zs, hz⟩ := xsOf_some (hs := hs) (x := P[j].name) (by rw [ho.keys]; exact hm)
    obtain ⟨hh, hhm, _, he⟩ := xsOf_mem hz
    have hym : P[j].name ∈ ys := hy.mem_iff.mpr hm
    have hil := List.idxOf_lt_length_of_mem hym
    rw [hy.length_eq, List.length_map] at hil
    exact fill_body (n := n + 89) (hs := hs) (ys := ys) (x := P[j].name) (xs := zs) Lk (by rfl) g2 g1.numbers g3 hym hz (by rw [← he]; exact (ho.vals hh hhm).1) (by rw [g4.len]; exact hil) (by rw [g4.len]; (first | assumption | exact Nat.le_of_ble_eq_true rfl | exact Nat.add_le_add_left (Nat.le_of_ble_eq_true rfl) _ | exact Nat.le_trans (by assumption) (Nat.le_of_ble_eq_true rfl) | lia | omega)) ⟨_, ⟨g1.feed, g1.plan, g1.row, g1.numbers, g1.signatures, g1.opener⟩, g2, g3, g4.succ hW.nodup hy hj ho hz, rfl⟩
  · rintro ρ3 own3 ⟨insts, g1, g2, g3, g4, rfl⟩
    rw [List.length_map, hnP] at g4
    refine Sx.freezeName (y := "instance") hi1 g3 .list ?_
    have hr4 : LwR (upd ρ3 "instance" (.lst (insts.map setV))) fa P ys (sigV CS Q xs) (opV CO (sigV CS Q xs) Q (numsFrom 0 ys)) := ⟨g1.feed, g1.plan, g1.row, g1.numbers, g1.signatures, g1.opener⟩
    have hh4 : upd ρ3 "instance" (.lst (insts.map setV)) "has" = some (.dct (hasV hs)) := g2
    have hi4 : upd ρ3 "instance" (.lst (insts.map setV)) "instance" = some (.lst (insts.map setV)) := by rfl
    generalize upd ρ3 "instance" (.lst (insts.map setV)) = ρ4 at hr4 hh4 hi4
    refine Sx.cons (S1.assign (d := evV CE insts) (Ev.call (o₁ := []) (o₂ := []) (o₃ := []) (r := [(fa, .dict (feedV cs s'))]) (Ev.glob Gv (by rfl) hE) (Es.cons Ev.constInt (Es.cons (Ev.name hi4) Es.nil)) (Kind.of_makes X₀ E.makes) ((evnew_fn (n := n) (inst := insts) Gv X₀ E).le (by (first | assumption | exact Nat.le_of_ble_eq_true rfl | exact Nat.add_le_add_left (Nat.le_of_ble_eq_true rfl) _ | exact Nat.le_trans (by assumption) (Nat.le_of_ble_eq_true rfl) | lia | omega)))) (.inl (by rfl)) ?_)
    have hr5 : LwR (upd ρ4 "evaluator" (evV CE insts)) fa P ys (sigV CS Q xs) (opV CO (sigV CS Q xs) Q (numsFrom 0 ys)) := ⟨hr4.feed, hr4.plan, hr4.row, hr4.numbers, hr4.signatures, hr4.opener⟩
    have hh5 : upd ρ4 "evaluator" (evV CE insts) "has" = some (.dct (hasV hs)) := hh4
    have he5 : upd ρ4 "evaluator" (evV CE insts) "evaluator" = some (evV CE insts) := by rfl
    generalize upd ρ4 "evaluator" (evV CE insts) = ρ5 at hr5 hh5 he5
    have hF := g4.fits hy
    refine Sx.cons (S1.for (ds := (names P).map .str) (fun j ρ' own' => LwR ρ' fa P ys (sigV CS Q xs) (opV CO (sigV CS Q xs) Q (numsFrom 0 ys)) ∧ ρ' "has" = some (.dct (hasV hs)) ∧ ρ' "evaluator" = some (evV CE insts) ∧ own' = [(fa, .dict (feedV cs s'))])
      (Src.cast (Src.of (Ev.name hr5.plan) (Itr.dct .dct) (List.nil_sublist _)) (by rw [keys_plan]; simp [names])) (.inl (by rfl)) ⟨hr5, hh5, he5, rfl⟩ ?_ ?_)
    · rintro j d hd ρ' own' ⟨g1, g2, g3, rfl⟩
      obtain ⟨l, hl, rfl⟩ : ∃ l ∈ P, d = .str l.name := by
        rw [List.getElem?_map] at hd
        obtain ⟨y, e1, e2⟩ := Option.map_eq_some_iff.mp hd
        obtain ⟨l, hl, e3⟩ := List.mem_map.mp (List.mem_of_getElem? e1)
        exact ⟨l, hl, by rw [← e2, ← e3]⟩
      exact check_body (n := n) (l := l) Lk S hop E ⟨g1.feed, g1.plan, g1.row, g1.numbers, g1.signatures, g1.opener⟩ hW hP hQ hy ho hF (by rw [g4.len]; (first | assumption | exact Nat.le_of_ble_eq_true rfl | exact Nat.add_le_add_left (Nat.le_of_ble_eq_true rfl) _ | exact Nat.le_trans (by assumption) (Nat.le_of_ble_eq_true rfl) | lia | omega)) hl (by rfl) g2 g3 fun ρ'' k1 k2 k3 => ⟨k1, k2, k3, rfl⟩
    · rintro ρ6 own6 ⟨g1, g2, g3, rfl⟩
      exact Sx.nil (hN ρ6 s' g1 hs')
end
end Mine
end
section
open PySem PySem.W PyProof.Rows PySem.MeetsSeq PySem.SeqAt
set_option maxRecDepth 100000
namespace Mine

noncomputable def cellF : V → V
  | .int i => .int (i.fmod 1000003)
  | _ => .int 0
noncomputable def cellsOf (zs : List Int) : List Int := (zs.take 60).map fun i => i.fmod 1000003
theorem cells_eq {zs : List Int} : (((zs.take 60).map V.int).filter fun _ => true).map cellF = (cellsOf zs).map .int := by
  rw [List.filter_eq_self.mpr fun _ _ => rfl, List.map_map]
  unfold cellsOf
  rw [List.map_map]; rfl

section
variable {w : World} {H Z : Heap} {n : Nat} {pk : List Addr} {env : Env} {ρ ρc : Names} {o₀ o₁ o₂ o₃ own own₁ own₂ F : Own} {N : Names → Own → Prop} {R : V → Own → Prop} {sts : List Stmt} {st : Stmt} {mg mb : Str → Option Value} {K : Frag}

noncomputable abbrev ILaw (fa CS CO : Addr) (cs : List Int) (P Q : List Lab) (xs ys : List Str) : Nat → Names → Own → Prop := fun i ρ' own' => ∃ s', LwR ρ' fa P ys (sigV CS Q xs) (opV CO (sigV CS Q xs) Q (numsFrom 0 ys)) ∧ s' ≤ 100 + 80 * i ∧ own' = [(fa, .dict (feedV cs s'))]
set_option maxHeartbeats 4000000 in
theorem law_fc {f a : Addr} {vs : List Value} {zs : List Int} (Lk : LawK H K mg mb) (D : DefAt H f (top 59)) (hl : H.IsList a (List.toArray vs)) (hz : IntsAre vs zs) (hn : zs.length ≤ 63) :
    Fc w H (n + 91) (.ref f) [] [.raw (.ref a)] (fun d o => d = .raw (.bool true) ∧ o = []) := by
  have Gv := Lk.Gv
  have Bl := Lk.Bl
  have X₀ := Lk.X
  obtain ⟨fd, Hd⟩ := Lk.draw
  obtain ⟨fp, Hp⟩ := Lk.plan
  obtain ⟨CE, E, hE⟩ := Lk.ev
  obtain ⟨CS, S, hS⟩ := Lk.sig
  obtain ⟨CO, fo, cc, cda, f2, O, hO⟩ := Lk.op
  have hcl : (cellsOf zs).length ≤ 1000 := by unfold cellsOf; rw [List.length_map, List.length_take]; (first | assumption | exact Nat.le_of_ble_eq_true rfl | exact Nat.add_le_add_left (Nat.le_of_ble_eq_true rfl) _ | exact Nat.le_trans (by assumption) (Nat.le_of_ble_eq_true rfl) | lia | omega)
  refine Fc.enter (n := n + 90) Gv D P_law rfl fun L q cd ok => ?_
  refine Sx.cons (S1.assignG (Eg.disp Gv (Ep.cons (d := .lst ((cellsOf zs).map .int)) (Ev.cast (Ev.comp (F := []) (x := "cell") (Src.of (Ev.uptoRaw hl hz (Ev.name (d := .raw (.ref a)) (by rfl)) (Ev.constInt (i := ((60 : Nat) : Int))) (by (first | assumption | exact Nat.le_of_ble_eq_true rfl | exact Nat.add_le_add_left (Nat.le_of_ble_eq_true rfl) _ | exact Nat.le_trans (by assumption) (Nat.le_of_ble_eq_true rfl) | lia | omega))) (Itr.lst .lst) (List.nil_sublist _)) (List.nil_sublist _) (p := fun _ => true) (f := cellF) (ρc := capρ [])
      ⟨CompOk.of (by (first | kernel_rfl | decide +kernel)), by rw [List.length_map, List.length_take]; (first | assumption | exact Nat.le_of_ble_eq_true rfl | exact Nat.add_le_add_left (Nat.le_of_ble_eq_true rfl) _ | exact Nat.le_trans (by assumption) (Nat.le_of_ble_eq_true rfl) | lia | omega), CapL.cap .nil, .inl rfl, fun C okc d hd => Tst.nil, fun C okc d hd _ => ?_⟩) (congrArg V.lst cells_eq)) (Ep.cons (Ev.constInt (i := 0)) Ep.nil)) (by rfl) (by rfl) (by simp) (by decide) fun fa hf1 hf2 => ?_) (.inl (by rfl)))
  · obtain ⟨i, hi, rfl⟩ := List.mem_map.mp hd
    exact Ev.binop (Ev.call (o₁ := []) (o₂ := []) (o₃ := []) (r := []) (Ev.blt Gv (by rfl) Bl.int.1 Bl.int.2) (Es.cons (Ev.name (d := .int i) (by rfl)) Es.nil) (.type _) Fn.intInt) Ev.constInt (Op2.modInt (by decide))
  rw [putAll_new (acc := []) (by simp only [List.nil_append, List.map_cons, List.map_nil]; (first | kernel_rfl | decide +kernel)), List.nil_append]
  change Sx w H (n + 90) [] _ _ (upd (argsρ ["script"] [.raw (.ref a)]) "feed" (.raw (.ref fa))) [(fa, .dict (feedV (cellsOf zs) 0))] _ _
  generalize cellsOf zs = cs at hcl
  refine Sx.cons (S1.assignG (Eg.call (o₁ := [(fa, .dict (feedV cs 0))]) (o₂ := [(fa, .dict (feedV cs 0))]) (r := []) (Ev.glob Gv (by rfl) Hp.nm) (Es.cons (Ev.name (d := .raw (.ref fa)) (by rfl)) Es.nil) Hp.kind (Fr'.mono ((plan_fn (n := n) (s := 0) Gv Bl Hp.at_ Hd (by (first | assumption | exact Nat.le_of_ble_eq_true rfl | exact Nat.add_le_add_left (Nat.le_of_ble_eq_true rfl) _ | exact Nat.le_trans (by assumption) (Nat.le_of_ble_eq_true rfl) | lia | omega)) hcl).le (by (first | assumption | exact Nat.le_of_ble_eq_true rfl | exact Nat.add_le_add_left (Nat.le_of_ble_eq_true rfl) _ | exact Nat.le_trans (by assumption) (Nat.le_of_ble_eq_true rfl) | lia | omega))) fun d o ⟨P, s1, hW, hP5, hP8, hs1, e1, e2⟩ => ?_)) (.inr ⟨by rfl, by rfl⟩))
  subst e1 e2
  rw [List.append_nil]
  have hpl2 : (planV P).length = P.length := by simp [planV]
  have hrow : (planV P).map (fun p => V.str p.1) = (names P).map V.str := by simp [planV, Function.comp_def]
  have d1 := drw_lo (cs := cs) (s := s1) (wide := (P.length : Int)) (by (first | assumption | exact Nat.le_of_ble_eq_true rfl | exact Nat.add_le_add_left (Nat.le_of_ble_eq_true rfl) _ | exact Nat.le_trans (by assumption) (Nat.le_of_ble_eq_true rfl) | lia | omega))
  have d2 := drw_lo (cs := cs) (s := s1 + 1) (wide := (P.length : Int)) (by (first | assumption | exact Nat.le_of_ble_eq_true rfl | exact Nat.add_le_add_left (Nat.le_of_ble_eq_true rfl) _ | exact Nat.le_trans (by assumption) (Nat.le_of_ble_eq_true rfl) | lia | omega))
  obtain ⟨k1, hk1⟩ : ∃ k : Nat, drw cs s1 (P.length : Int) = (k : Int) := ⟨_, (Int.toNat_of_nonneg d1).symm⟩
  obtain ⟨k2, hk2⟩ : ∃ k : Nat, drw cs (s1 + 1) (P.length : Int) = (k : Int) := ⟨_, (Int.toNat_of_nonneg d2).symm⟩
  have lenC : ∀ {s : Nat}, Fn w H (n + 90) (.builtin "len") [] [.dct (planV P)] (.int (P.length : Int)) [] := fun {s} => Fn.cast (Fn.lenD .dct (by (first | assumption | exact Nat.le_of_ble_eq_true rfl | exact Nat.add_le_add_left (Nat.le_of_ble_eq_true rfl) _ | exact Nat.le_trans (by assumption) (Nat.le_of_ble_eq_true rfl) | lia | omega))) (by rw [hpl2])
  refine Sx.cons (S1.tupS (names := ["row", "spot", "turn"]) (Eg.tuple (Egs.cons (Eg.of (Ev.call (o₁ := []) (o₂ := []) (o₃ := []) (r := [(fa, .dict (feedV cs s1))]) (Ev.blt Gv (by rfl) Bl.list.1 Bl.list.2) (Es.cons (Ev.name (d := .dct (planV P)) (by rfl)) Es.nil) (.type _) (Fn.cast (Fn.listD .dct (by (first | assumption | exact Nat.le_of_ble_eq_true rfl | exact Nat.add_le_add_left (Nat.le_of_ble_eq_true rfl) _ | exact Nat.le_trans (by assumption) (Nat.le_of_ble_eq_true rfl) | lia | omega))) (by rw [hrow])))
    (Egs.cons (Eg.of (Ev.cast (Ev.draw (n := n + 89) (s := s1) Gv Bl Hd (wide := (P.length : Int)) (by (first | assumption | exact Nat.le_of_ble_eq_true rfl | exact Nat.add_le_add_left (Nat.le_of_ble_eq_true rfl) _ | exact Nat.le_trans (by assumption) (Nat.le_of_ble_eq_true rfl) | lia | omega)) (by (first | assumption | exact Nat.le_of_ble_eq_true rfl | exact Nat.add_le_add_left (Nat.le_of_ble_eq_true rfl) _ | exact Nat.le_trans (by assumption) (Nat.le_of_ble_eq_true rfl) | lia | omega)) hcl (by rfl) (by rfl) (Ev.call (o₁ := []) (o₂ := []) (o₃ := []) (r := [(fa, .dict (feedV cs s1))]) (Ev.blt Gv (by rfl) Bl.len.1 Bl.len.2) (Es.cons (Ev.name (d := .dct (planV P)) (by rfl)) Es.nil) (.builtin _) (lenC (s := s1)))) (by rw [hk1]))
    (Egs.cons (Eg.of (Ev.cast (Ev.draw (n := n + 89) (s := s1 + 1) Gv Bl Hd (wide := (P.length : Int)) (by (first | assumption | exact Nat.le_of_ble_eq_true rfl | exact Nat.add_le_add_left (Nat.le_of_ble_eq_true rfl) _ | exact Nat.le_trans (by assumption) (Nat.le_of_ble_eq_true rfl) | lia | omega)) (by (first | assumption | exact Nat.le_of_ble_eq_true rfl | exact Nat.add_le_add_left (Nat.le_of_ble_eq_true rfl) _ | exact Nat.le_trans (by assumption) (Nat.le_of_ble_eq_true rfl) | lia | omega)) hcl (by rfl) (by rfl) (Ev.call (o₁ := []) (o₂ := []) (o₃ := []) (r := [(fa, .dict (feedV cs (s1 + 1)))]) (Ev.blt Gv (by rfl) Bl.len.1 Bl.len.2) (Es.cons (Ev.name (d := .dct (planV P)) (by rfl)) Es.nil) (.builtin _) (lenC (s := s1)))) (by rw [hk2])) (Egs.nil ⟨by simp, _, rfl, rfl, ?_⟩)))))))) (st3 (.inl (by rfl)) (.inl (by rfl)) (.inl (by rfl))))
  change Sx w H (n + 90) [] _ _ (upd (upd (upd (upd (upd (argsρ ["script"] [.raw (.ref a)]) "feed" (.raw (.ref fa))) "plan" (.dct (planV P))) "turn" (.int k2)) "spot" (.int k1)) "row" (.lst ((names P).map .str))) [(fa, .dict (feedV cs (s1 + 1 + 1)))] _ _
  generalize hs2 : s1 + 1 + 1 = s2
  have hrl : ∀ k, ((rot k (names P)).map V.str).length ≤ 10 := fun k => by rw [List.length_map, rot_len, List.length_map]; (first | assumption | exact Nat.le_of_ble_eq_true rfl | exact Nat.add_le_add_left (Nat.le_of_ble_eq_true rfl) _ | exact Nat.le_trans (by assumption) (Nat.le_of_ble_eq_true rfl) | lia | omega)
  have rotE : ∀ {k : Nat}, ((names P).map V.str).drop k ++ ((names P).map V.str).take k = (rot k (names P)).map V.str := fun {k} => by unfold rot; rw [List.map_append, List.map_drop, List.map_take]
  have hnl : ((names P).map V.str).length ≤ 8 := by rw [List.length_map, List.length_map]; (first | assumption | exact Nat.le_of_ble_eq_true rfl | exact Nat.add_le_add_left (Nat.le_of_ble_eq_true rfl) _ | exact Nat.le_trans (by assumption) (Nat.le_of_ble_eq_true rfl) | lia | omega)
  refine Sx.cons (S1.assignComp (F := []) (x := "one") (Src.of (Ev.cast (d' := .lst ((rot k1 (names P)).map V.str)) (Ev.binop (Ev.from (d := .lst ((names P).map .str)) (k := k1) (Ev.name (by rfl)) (Ev.name (by rfl)) .lst (by (first | assumption | exact Nat.le_of_ble_eq_true rfl | exact Nat.add_le_add_left (Nat.le_of_ble_eq_true rfl) _ | exact Nat.le_trans (by assumption) (Nat.le_of_ble_eq_true rfl) | lia | omega))) (Ev.upto (d := .lst ((names P).map .str)) (k := k1) (Ev.name (by rfl)) (Ev.name (by rfl)) .lst (by (first | assumption | exact Nat.le_of_ble_eq_true rfl | exact Nat.add_le_add_left (Nat.le_of_ble_eq_true rfl) _ | exact Nat.le_trans (by assumption) (Nat.le_of_ble_eq_true rfl) | lia | omega))) (Op2.addLst .lst .lst (by rw [List.length_drop, List.length_take]; (first | assumption | exact Nat.le_of_ble_eq_true rfl | exact Nat.add_le_add_left (Nat.le_of_ble_eq_true rfl) _ | exact Nat.le_trans (by assumption) (Nat.le_of_ble_eq_true rfl) | lia | omega)))) (by rw [rotE])) (Itr.lst .lst) (List.nil_sublist _)) (List.nil_sublist _) (p := fun _ => true) (f := itF P) (ρc := capρ [("plan", .dct (planV P))])
    ⟨CompOk.of (by (first | kernel_rfl | decide +kernel)), by have := hrl k1; (first | assumption | exact Nat.le_of_ble_eq_true rfl | exact Nat.add_le_add_left (Nat.le_of_ble_eq_true rfl) _ | exact Nat.le_trans (by assumption) (Nat.le_of_ble_eq_true rfl) | lia | omega), CapL.cap (.cons (by (first | kernel_rfl | decide +kernel)) (by rfl) (by rfl) Fzd.same .nil), .inl rfl, fun C okc d hd => Tst.nil, fun C okc d hd _ => ?_⟩ (.inl (by rfl)) ?_)
  · obtain ⟨y, hy, rfl⟩ := List.mem_map.mp hd
    obtain ⟨l, hl, rfl⟩ := List.mem_map.mp (rot_perm.mem_iff.mp hy)
    have e : itF P (.str l.name) = itemV l := by
      show (match findL P l.name with | some l => itemV l | none => V.int 0) = _
      rw [hW.find hl]
    rw [e]
    have lab : ∀ {ce : Env} {k : Int} {d : V} {p1 p2 p3 p4 p5 : Pos}, 0 ≤ k → k < 9 → [V.str l.parent, .tup (l.parts.map .str), .raw (.bool l.hollow), .str l.mark][k.toNat]? = some d → Ev w H (n + 90) ce (upd (capρ [("plan", .dct (planV P))]) "one" (.str l.name)) [] (.Subscript (.Subscript (.Name "plan" p1) (.Name "one" p2) p3) (.Constant (.int k) 0 p4) p5) d [] := fun k0 k9 hx =>
      Ev.sub (Ev.sub (Ev.name (d := .dct (planV P)) (by rfl)) (Ev.name (d := .str l.name) (by rfl)) (Op2.subDct .dct (hW.look hl))) Ev.constInt (Op2.subTup k0 hx (by (first | assumption | exact Nat.le_of_ble_eq_true rfl | exact Nat.add_le_add_left (Nat.le_of_ble_eq_true rfl) _ | exact Nat.le_trans (by assumption) (Nat.le_of_ble_eq_true rfl) | lia | omega)))
    exact Ev.tuple (Es.cons Ev.constStr (Es.cons Ev.constInt (Es.cons (Ev.tuple (Es.cons (Ev.name (by rfl)) Es.nil)) (Es.cons (lab (by decide) (by decide) rfl) (Es.cons (lab (by decide) (by decide) rfl) (Es.cons (lab (by decide) (by decide) rfl) (Es.cons (lab (by decide) (by decide) rfl) (Es.cons (Ev.tuple Es.nil) (Es.cons (Ev.tuple Es.nil) Es.nil)))))))))
  have hQ : (rot k1 P).Perm P := rot_perm
  have hit : (((rot k1 (names P)).map V.str).filter fun _ => true).map (itF P) = (rot k1 P).map itemV := by
    have : rot k1 (names P) = names (rot k1 P) := (rot_map (f := fun l : Lab => l.name)).symm
    rw [this]
    exact items_eq hW.nodup fun l hl => hQ.mem_iff.mp hl
  rw [hit]
  have hQo : QOk (rot k1 P) := QOk.of hW hQ hP8
  generalize hQg : rot k1 P = Q at hQ hQo
  have hyp : (rot k2 (names P)).Perm (names P) := rot_perm
  have hynd : (rot k2 (names P)).Nodup := hyp.nodup_iff.mpr hW.nodup
  generalize hyg : rot k2 (names P) = ys at hyp hynd
  have hyl : ys.length ≤ 8 := by rw [hyp.length_eq, List.length_map]; exact hP8
  have hnk : (numsFrom 0 ys).length = ys.length := by
    have := congrArg List.length (nums_keys (i := 0) (ys := ys)); rwa [List.length_map] at this
  refine Sx.cons (S1.assign (d := .dct (numsFrom 0 ys)) (Ev.cast (Ev.call (o₁ := []) (o₂ := []) (o₃ := []) (r := [(fa, .dict (feedV cs s2))]) (Ev.blt Gv (by rfl) Bl.dict.1 Bl.dict.2) (Es.cons (Ev.cast (d' := .lst ((numsFrom 0 ys).map fun p => .tup [.str p.1, p.2])) (Ev.enumComp (ds := ys.map .str) (f := numF) Gv Bl (by rfl) (Es.cons (Ev.cast (d' := .lst (ys.map V.str)) (Ev.binop (Ev.from (d := .lst ((names P).map .str)) (k := k2) (Ev.name (by rfl)) (Ev.name (by rfl)) .lst (by (first | assumption | exact Nat.le_of_ble_eq_true rfl | exact Nat.add_le_add_left (Nat.le_of_ble_eq_true rfl) _ | exact Nat.le_trans (by assumption) (Nat.le_of_ble_eq_true rfl) | lia | omega))) (Ev.upto (d := .lst ((names P).map .str)) (k := k2) (Ev.name (by rfl)) (Ev.name (by rfl)) .lst (by (first | assumption | exact Nat.le_of_ble_eq_true rfl | exact Nat.add_le_add_left (Nat.le_of_ble_eq_true rfl) _ | exact Nat.le_trans (by assumption) (Nat.le_of_ble_eq_true rfl) | lia | omega))) (Op2.addLst .lst .lst (by rw [List.length_drop, List.length_take]; (first | assumption | exact Nat.le_of_ble_eq_true rfl | exact Nat.add_le_add_left (Nat.le_of_ble_eq_true rfl) _ | exact Nat.le_trans (by assumption) (Nat.le_of_ble_eq_true rfl) | lia | omega)))) (by rw [rotE, hyg])) Es.nil) ⟨by rfl, (CompOk.of (x := "k") (by (first | kernel_rfl | decide +kernel))).free, by (first | kernel_rfl | decide +kernel), by (first | kernel_rfl | decide +kernel), by (first | kernel_rfl | decide +kernel), fun _ => by rfl, fun _ => by rfl⟩ (by rw [List.length_map]; (first | assumption | exact Nat.le_of_ble_eq_true rfl | exact Nat.add_le_add_left (Nat.le_of_ble_eq_true rfl) _ | exact Nat.le_trans (by assumption) (Nat.le_of_ble_eq_true rfl) | lia | omega)) fun C okc i d hd => Ev.tuple (Es.cons (Ev.name (by rfl)) (Es.cons (Ev.name (by rfl)) Es.nil))) (congrArg V.lst nums_pairs)) Es.nil) (.type _) (Fn.dictS (l := numsFrom 0 ys) Gv (by rw [hnk]; (first | assumption | exact Nat.le_of_ble_eq_true rfl | exact Nat.add_le_add_left (Nat.le_of_ble_eq_true rfl) _ | exact Nat.le_trans (by assumption) (Nat.le_of_ble_eq_true rfl) | lia | omega)))) (by rw [nums_put hynd])) (.inl (by rfl)) ?_)
  refine Sx.cons (S1.assignG (Eg.call (o₁ := []) (o₂ := []) (r := [(fa, .dict (feedV cs s2))]) (Ev.glob Gv (by rfl) hS) (Es.cons (Ev.name (d := .lst (Q.map itemV)) (by rfl)) Es.nil) (Kind.of_makes X₀ S.makes) (Fr'.mono ((signew_fr (n := n) Gv Bl X₀ S hQo).le (by (first | assumption | exact Nat.le_of_ble_eq_true rfl | exact Nat.add_le_add_left (Nat.le_of_ble_eq_true rfl) _ | exact Nat.le_trans (by assumption) (Nat.le_of_ble_eq_true rfl) | lia | omega))) fun d o ⟨xs, e1, e2⟩ => ?_)) (.inl (by rfl)))
  subst e1 e2
  rw [List.nil_append]
  refine Sx.cons (S1.assign (d := opV CO (sigV CS Q xs) Q (numsFrom 0 ys)) (Ev.call (o₁ := []) (o₂ := []) (o₃ := []) (r := [(fa, .dict (feedV cs s2))]) (Ev.glob Gv (by rfl) hO) (Es.cons (Ev.name (d := sigV CS Q xs) (by rfl)) (Es.cons Ev.constNone (Es.cons (Ev.name (d := .lst (Q.map itemV)) (by rfl)) (Es.cons (Ev.name (d := .dct (numsFrom 0 ys)) (by rfl)) Es.nil)))) (Kind.of_makes X₀ O.makes) ((opnew_fn (n := n) Gv Bl X₀ O (by rw [hQ.length_eq]; (first | assumption | exact Nat.le_of_ble_eq_true rfl | exact Nat.add_le_add_left (Nat.le_of_ble_eq_true rfl) _ | exact Nat.le_trans (by assumption) (Nat.le_of_ble_eq_true rfl) | lia | omega))).le (by (first | assumption | exact Nat.le_of_ble_eq_true rfl | exact Nat.add_le_add_left (Nat.le_of_ble_eq_true rfl) _ | exact Nat.le_trans (by assumption) (Nat.le_of_ble_eq_true rfl) | lia | omega)))) (.inl (by rfl)) ?_)
  have d3 : (upto 3).length = 3 := rfl
  refine Sx.cons (S1.for (ILaw fa CS CO cs P Q xs ys)
    (Src.of (Ev.call (o₁ := []) (o₂ := []) (o₃ := []) (r := [(fa, .dict (feedV cs s2))]) (Ev.blt Gv (by rfl) Bl.range.1 Bl.range.2) (Es.cons Ev.constInt Es.nil) (.type _) Fn.range) (Itr.rng (k := 3) (by decide)) (List.nil_sublist _)) (.inl (by rfl)) ⟨s2, ⟨by rfl, by rfl, by rfl, by rfl, by rfl, by rfl⟩, by (first | assumption | exact Nat.le_of_ble_eq_true rfl | exact Nat.add_le_add_left (Nat.le_of_ble_eq_true rfl) _ | exact Nat.le_trans (by assumption) (Nat.le_of_ble_eq_true rfl) | lia | omega), rfl⟩ ?_ ?_)
  · rintro i d hd ρ' own' ⟨s', g1, g2, rfl⟩
    obtain ⟨hi, rfl⟩ := upto_at hd
    exact lap_body (n := n) Lk S O.cls E hE ⟨g1.feed, g1.plan, g1.row, g1.numbers, g1.signatures, g1.opener⟩ hW hP8 (by (first | assumption | exact Nat.le_of_ble_eq_true rfl | exact Nat.add_le_add_left (Nat.le_of_ble_eq_true rfl) _ | exact Nat.le_trans (by assumption) (Nat.le_of_ble_eq_true rfl) | lia | omega)) hQ hyp (by (first | assumption | exact Nat.le_of_ble_eq_true rfl | exact Nat.add_le_add_left (Nat.le_of_ble_eq_true rfl) _ | exact Nat.le_trans (by assumption) (Nat.le_of_ble_eq_true rfl) | lia | omega)) hcl (fun _ h _ => h) fun ρ'' s'' k1 k2 => ⟨s'', k1, by (first | assumption | exact Nat.le_of_ble_eq_true rfl | exact Nat.add_le_add_left (Nat.le_of_ble_eq_true rfl) _ | exact Nat.le_trans (by assumption) (Nat.le_of_ble_eq_true rfl) | lia | omega), rfl⟩
  · rintro ρ' own' ⟨s', g1, g2, rfl⟩
    exact Sx.cons (S1.ret Ev.constBool ⟨[], [(fa, .dict (feedV cs s'))], rfl, rfl, rfl, rfl⟩)
end
end Mine
end
section
set_option maxRecDepth 100000
set_option maxHeartbeats 0
namespace Mine
noncomputable def fdIn (K : Frag) (a : Addr) : Option FuncData := match K.lookup a with
  | some ⟨_, _, .func fd, _⟩ => some fd
  | _ => none
noncomputable def fdData (fd : FuncData) : Arguments × FuncBody × Scope × List (Str × Addr) × Addr × Addr × Value × Value := (fd.params, fd.body, fd.scope, fd.closure, fd.globals, fd.builtins, fd.defaults, fd.kwdefaults)
noncomputable def codeOf (K : Frag) (a : Addr) : Bool := match fdIn K a with
  | some fd => codeIn K fd.code fd.qualname
  | none => false
theorem fd_some {K : Frag} {a : Addr} {d : Arguments × FuncBody × Scope × List (Str × Addr) × Addr × Addr × Value × Value} (h1 : typeIn K (.ref a) = some (.type "function")) (h2 : (fdIn K a).map fdData = some d) (h3 : codeOf K a = true) : ∃ o fd, K.lookup a = some o ∧ o.cls = .type "function" ∧ o.data = .func fd ∧ codeIn K fd.code fd.qualname = true ∧ fdIn K a = some fd ∧ fdData fd = d := by
  unfold codeOf at h3
  have h1' : (K.lookup a).map (·.cls) = some (.type "function") := h1
  cases e : fdIn K a with
  | none => rw [e] at h2; cases h2
  | some fd =>
    rw [e] at h2 h3
    unfold fdIn at e
    split at e
    · rename_i c od sl fd' q
      rw [q] at h1'
      cases e
      exact ⟨_, fd, q, Option.some.inj h1', rfl, h3, rfl, Option.some.inj h2⟩
    · cases e
theorem DefAt.of {K : Frag} {H : Heap} {a : Addr} {d : Arguments × List Stmt × Scope} (X : K.In H) (h1 : typeIn K (.ref a) = some (.type "function")) (h2 : (fdIn K a).map fdData = some (d.1, .stmts d.2.1, d.2.2, [], mainGlobals, builtinsNs, .none, .none)) (h3 : codeOf K a = true) : DefAt H a d := by
  obtain ⟨o, fd, e, h4, h5, h6, _, h7⟩ := fd_some h1 h2 h3
  simp only [fdData, Prod.mk.injEq] at h7
  obtain ⟨g1, g2, g3, g4, g5, g6, g7, g8⟩ := h7
  exact ⟨_, fd, X _ _ e, h4, h5, codeRec_of X h6, g2, g4, g5, g6, g3, g1, g7, g8⟩
theorem MethAt.of {K : Frag} {H : Heap} {C f : Addr} {name : Str} {d : Arguments × List Stmt × Scope} (X : K.In H) (h0 : findIn K (.ref C) name = some (some (.ref f))) (h1 : typeIn K (.ref f) = some (.type "function")) (h2 : (fdIn K f).map fdData = some (d.1, .stmts d.2.1, d.2.2, [], mainGlobals, builtinsNs, .none, .none)) (h3 : codeOf K f = true) : MethAt H K C name d f := by
  obtain ⟨o, fd, e, h4, h5, _⟩ := fd_some h1 h2 h3
  exact ⟨h0, DefAt.of X h1 h2 h3, o, fd, e, h4, h5⟩
noncomputable def cellOf (K : Frag) (a : Addr) : Option Value := match K.lookup a with
  | some ⟨_, _, .cell v, _⟩ => v
  | _ => none
theorem cellOf_some {K : Frag} {a : Addr} {v : Value} (h : cellOf K a = some v) : ∃ o, K.lookup a = some o ∧ o.data = .cell (some v) := by
  unfold cellOf at h
  split at h
  · rename_i c od v' sl q
    subst h
    exact ⟨_, q, rfl⟩
  · cases h
noncomputable def fileOf (K : Frag) (a : Addr) : Option Str := match K.lookup a with
  | some ⟨_, _, .fields vs, _⟩ => (match (vs[2]? : Option Value) with
    | some (Value.str f _) => some f
    | _ => none)
  | _ => none
theorem fileOf_some {K : Frag} {a : Addr} {f : Str} (h : fileOf K a = some f) : ∃ oc vs tf, K.lookup a = some oc ∧ oc.data = .fields vs ∧ vs[2]? = some (.str f tf) := by
  unfold fileOf at h
  split at h
  · rename_i c od vs sl q
    split at h
    · rename_i f' t e
      cases h
      exact ⟨_, vs, t, q, rfl, e⟩
    · cases h
  · cases h
theorem isSome_get {α : Type} {o : Option α} (h : o.isSome = true) : ∃ x, o = some x := Option.isSome_iff_exists.mp h
section
variable {P : PySem.Params} {H : Heap} {mg mb : Str → Option Value} {p : Program} {loose : List Str} {mean : ExcName → Option Value}
end
structure FdOk (K : Frag) (a : Addr) (d : Arguments × List Stmt × Scope) : Prop where
  ty : typeIn K (.ref a) = some (.type "function")
  da : (fdIn K a).map fdData = some (d.1, .stmts d.2.1, d.2.2, [], mainGlobals, builtinsNs, .none, .none)
  co : codeOf K a = true
structure MeOk (K : Frag) (C : Addr) (nm : Str) (d : Arguments × List Stmt × Scope) (f : Addr) : Prop where
  fi : findIn K (.ref C) nm = some (some (.ref f))
  fd : FdOk K f d
structure GlOk (K : Frag) (nm : Str) (d : Arguments × List Stmt × Scope) (a : Addr) : Prop where
  ns : nsIn K mainGlobals nm = some (some (.ref a))
  fd : FdOk K a d
/-- what the written heap must hold for the law -/
structure Found (K : Frag) : Prop where
  evI : InstCls K 276 ["many", "instance", "ways"]
  sgI : InstCls K 820 ["entries", "stands", "opened", "ordered", "own_fields"]
  evM : makesIn K 276 = true
  sgM : makesIn K 820 = true
  m235 : MeOk K 276 "set_of" (mem 32 2) 235
  m249 : MeOk K 276 "of_two" (mem 32 4) 249
  m259 : MeOk K 276 "truth" (mem 32 6) 259
  m273 : MeOk K 276 "has_many" (mem 32 8) 273
  m223 : MeOk K 276 "__init__" (mem 32 0) 223
  g131 : GlOk K "set_of_sets" (top 14) 131
  g148 : GlOk K "union" (top 18) 148
  g153 : GlOk K "meet" (top 19) 153
  g158 : GlOk K "minus" (top 20) 158
  g165 : GlOk K "is_within" (top 21) 165
  m669 : MeOk K 820 "__init__" (mem 50 0) 669
  m676 : MeOk K 820 "take_sig" (mem 50 1) 676
  m683 : MeOk K 820 "look_above" (mem 50 2) 683
  m690 : MeOk K 820 "direct" (mem 50 3) 690
  m695 : MeOk K 820 "parents_first" (mem 50 4) 695
  m702 : MeOk K 820 "all_fields" (mem 50 5) 702
  m709 : MeOk K 820 "look_fields" (mem 50 6) 709
  m742 : MeOk K 820 "parent" (mem 50 11) 742
  m749 : MeOk K 820 "supers" (mem 50 12) 749
  m756 : MeOk K 820 "is_subset" (mem 50 13) 756
  m761 : MeOk K 820 "children" (mem 50 14) 761
  m789 : MeOk K 820 "is_abstract" (mem 50 18) 789
  m796 : MeOk K 820 "mult" (mem 50 19) 796
  opI : InstCls K 653 opAttrs
  opM : makesIn K 653 = true
  opF : findIn K (.ref 653) "__init__" = some (some (.ref 403))
  opT : typeIn K (.ref 403) = some (.type "function")
  opD : (fdIn K 403).map fdData = some ((mem 47 0).1, .stmts (mem 47 0).2.1, (mem 47 0).2.2, [(("__class__" : Str), 391)], mainGlobals, builtinsNs, .none, .none)
  opC : codeOf K 403 = true
  opK : (fdIn K 403).map (·.code) = some (.ref 402)
  opL : cellOf K 391 = some (.ref 653)
  opN : fileOf K 402 = some Pg.main.file
  opS : (clsIn K 653).isSome = true
  opU : mroIn K 653 (.ref 653) = some true
  opV : ks_superIn K 653 653 "__init__" = some (some (.ref 315))
  opW : fnIn K 315 = true
  opX : typeIn K (.ref 315) = some (.type "function")
  opY : nsIn K cStatics "thirdparty.any" = some none
  opZ : FdOk K 315 (mem 46 0)
  b_len : nsIn K mainGlobals "len" = some none
  b_sorted : nsIn K mainGlobals "sorted" = some none
  b_list : nsIn K mainGlobals "list" = some none
  b_tuple : nsIn K mainGlobals "tuple" = some none
  b_dict : nsIn K mainGlobals "dict" = some none
  b_range : nsIn K mainGlobals "range" = some none
  b_int : nsIn K mainGlobals "int" = some none
  b_enumerate : nsIn K mainGlobals "enumerate" = some none
  b_super : nsIn K mainGlobals "super" = some none
  g831 : GlOk K "_law_draw" (top 52) 831
  g836 : GlOk K "_law_plan" (top 53) 836
  g841 : GlOk K "_law_below" (top 54) 841
  g846 : GlOk K "_law_world" (top 55) 846
  g851 : GlOk K "_law_is_placed" (top 56) 851
  g856 : GlOk K "_law_is_parted" (top 57) 856
  g861 : GlOk K "_law_hold" (top 58) 861
  g35 : GlOk K "relation" (top 4) 35
  g40 : GlOk K "place_formulas" (top 5) 40
  g45 : GlOk K "children_formulas" (top 6) 45
  g28 : GlOk K "united_implicit" (top 2) 28
  evG : nsIn K mainGlobals "Evaluator" = some (some (.ref 276))
  sgG : nsIn K mainGlobals "Signatures" = some (some (.ref 820))
  opG : nsIn K mainGlobals "Opener" = some (some (.ref 653))
  law : GlOk K "law" (top 59) 866
section
variable {P : PySem.Params} {H : Heap} {mg mb : Str → Option Value} {p : Program} {loose : List Str} {mean : ExcName → Option Value} {K : Frag}
theorem foundFor (_ : K.In H) (F : Found K) : Found K := F
theorem FdOk.at_ {a : Addr} {d : Arguments × List Stmt × Scope} (F : FdOk K a d) (X : K.In H) : DefAt H a d := DefAt.of X F.ty F.da F.co
theorem MeOk.at_ {C f : Addr} {nm : Str} {d : Arguments × List Stmt × Scope} (F : MeOk K C nm d f) (X : K.In H) : MethAt H K C nm d f := MethAt.of X F.fi F.fd.ty F.fd.da F.fd.co
theorem kf_ev (X : K.In H) (T : Top p loose mean mg mb H) (F : Found K) : EvC H K mg 276 where
  cls := F.evI
  set_of := ⟨235, F.m235.at_ X⟩
  of_two := ⟨249, F.m249.at_ X⟩
  truth := ⟨259, F.m259.at_ X⟩
  has_many := ⟨273, F.m273.at_ X⟩
  init := ⟨223, F.m223.at_ X⟩
  makes := F.evM
  sets := ⟨131, F.g131.fd.at_ X, mg_of X T.g F.g131.ns⟩
  union := ⟨148, F.g148.fd.at_ X, mg_of X T.g F.g148.ns⟩
  meet := ⟨153, F.g153.fd.at_ X, mg_of X T.g F.g153.ns⟩
  minus := ⟨158, F.g158.fd.at_ X, mg_of X T.g F.g158.ns⟩
  within := ⟨165, F.g165.fd.at_ X, mg_of X T.g F.g165.ns⟩
theorem kf_sg (X : K.In H) (F : Found K) : SigC H K mg 820 where
  cls := F.sgI
  makes := F.sgM
  init := ⟨669, F.m669.at_ X⟩
  take_sig := ⟨676, F.m676.at_ X⟩
  look_above := ⟨683, F.m683.at_ X⟩
  direct := ⟨690, F.m690.at_ X⟩
  parents_first := ⟨695, F.m695.at_ X⟩
  all_fields := ⟨702, F.m702.at_ X⟩
  look_fields := ⟨709, F.m709.at_ X⟩
  parent := ⟨742, F.m742.at_ X⟩
  supers := ⟨749, F.m749.at_ X⟩
  is_subset := ⟨756, F.m756.at_ X⟩
  children := ⟨761, F.m761.at_ X⟩
  is_abstract := ⟨789, F.m789.at_ X⟩
  mult := ⟨796, F.m796.at_ X⟩
theorem kf_op (X : K.In H) (F : Found K) : OpAt H K 653 403 391 402 315 where
  cls := F.opI
  makes := F.opM
  find := F.opF
  fn := by
    obtain ⟨o, fd, e, h4, h5, h6, h7, h8⟩ := fd_some F.opT F.opD F.opC
    simp only [fdData, Prod.mk.injEq] at h8
    obtain ⟨g1, g2, g3, g4, g5, g6, g7, g8⟩ := h8
    have hc := F.opK
    rw [h7] at hc
    exact ⟨o, fd, e, h4, h5, h6, g2, g4, g5, g6, g3, g1, g7, g8, Option.some.inj hc⟩
  cell := cellOf_some F.opL
  code := by
    obtain ⟨oc, vs, tf, a, b, c⟩ := fileOf_some F.opN
    exact ⟨oc, vs, _, tf, a, b, c, by rw [beq_iff_eq]⟩
  kls := isSome_get F.opS
  sub := F.opU
  sup := F.opV
  fnI := F.opW
  ty2 := F.opX
  stat := F.opY
  nm := F.opZ.at_ X
theorem kf_blt (X : K.In H) (T : Top p loose mean mg mb H) (F : Found K) : Blts mg mb where
  len := ⟨mg_none_of X T.g F.b_len, (T.builtins _ (by decide +kernel)).trans (by kernel_rfl)⟩
  sorted := ⟨mg_none_of X T.g F.b_sorted, (T.builtins _ (by decide +kernel)).trans (by kernel_rfl)⟩
  list := ⟨mg_none_of X T.g F.b_list, (T.builtins _ (by decide +kernel)).trans (by kernel_rfl)⟩
  tuple := ⟨mg_none_of X T.g F.b_tuple, (T.builtins _ (by decide +kernel)).trans (by kernel_rfl)⟩
  dict := ⟨mg_none_of X T.g F.b_dict, (T.builtins _ (by decide +kernel)).trans (by kernel_rfl)⟩
  range := ⟨mg_none_of X T.g F.b_range, (T.builtins _ (by decide +kernel)).trans (by kernel_rfl)⟩
  int := ⟨mg_none_of X T.g F.b_int, (T.builtins _ (by decide +kernel)).trans (by kernel_rfl)⟩
  enumerate := ⟨mg_none_of X T.g F.b_enumerate, (T.builtins _ (by decide +kernel)).trans (by kernel_rfl)⟩
  super := ⟨mg_none_of X T.g F.b_super, (T.builtins _ (by decide +kernel)).trans (by kernel_rfl)⟩
theorem kf_law (X : K.In H) (T : Top p loose mean mg mb H) (F : Found K) : LawK H K mg mb where
  Gv := ⟨T.g, T.b, T.nolimit⟩
  Bl := kf_blt X T F
  X := X
  draw := ⟨831, F.g831.fd.at_ X, mg_of X T.g F.g831.ns⟩
  plan := ⟨836, F.g836.fd.at_ X, mg_of X T.g F.g836.ns⟩
  below := ⟨841, F.g841.fd.at_ X, mg_of X T.g F.g841.ns⟩
  world := ⟨846, F.g846.fd.at_ X, mg_of X T.g F.g846.ns⟩
  placed := ⟨851, F.g851.fd.at_ X, mg_of X T.g F.g851.ns⟩
  parted := ⟨856, F.g856.fd.at_ X, mg_of X T.g F.g856.ns⟩
  hold := ⟨861, F.g861.fd.at_ X, mg_of X T.g F.g861.ns⟩
  rel := ⟨35, F.g35.fd.at_ X, mg_of X T.g F.g35.ns⟩
  place := ⟨40, F.g40.fd.at_ X, mg_of X T.g F.g40.ns⟩
  childf := ⟨45, F.g45.fd.at_ X, mg_of X T.g F.g45.ns⟩
  uni := ⟨28, F.g28.fd.at_ X, mg_of X T.g F.g28.ns⟩
  ev := ⟨276, kf_ev X T F, mg_of X T.g F.evG⟩
  sig := ⟨820, kf_sg X F, mg_of X T.g F.sgG⟩
  op := ⟨653, 403, 391, 402, 315, kf_op X F, mg_of X T.g F.opG⟩
end
theorem rm_caller : Rm 91 callerA := ⟨rfl, by show 1 + claimMargin + 91 < recursionLimit; decide +kernel, by show 4 + 16 * 91 + 16 < cLine; decide +kernel⟩
theorem law_ends {w : World} {s₁ : Shared} {K : Frag} {mg mb : Str → Option Value} {fa a : Addr} {vs : List Value} {zs : List Int} {Q : Value → Shared → Prop} {E : Value → Shared → Prop} (Lk : LawK s₁.heap K mg mb) (D : DefAt s₁.heap fa (top 59)) (hl : s₁.heap.IsList a vs.toArray) (hz : IntsAre vs zs) (hn : ¬ (63 : Int) < zs.length)
    (h : ∀ s', (∀ b o, s₁.heap.get? b = some o → s'.heap.get? b = some o) → s'.os = s₁.os → s'.gens = s₁.gens → Q (.bool true) s') : wpAny (Md w) callerA (PySem.call (.ref fa) [.ref a]) Q E s₁ := by
  have C := law_fc (w := w) (n := 0) Lk D hl hz (by omega) callerA s₁.heap s₁ [.ref a] rm_caller ⟨Le.refl _, Le.refl _, (fun _ h => nomatch h), (fun _ h => nomatch h), List.nodup_nil⟩ (by simp only [VRs]; exact ⟨rfl, trivial⟩)
  refine wpAny_call (codeAny_mono C fun r s' p => ?_)
  rcases r with e | (v | _ | _ | _) <;> first | exact p.elim | skip
  obtain ⟨b', d', own', ⟨h1, h2⟩, _, st, B', rv⟩ := p
  subst h1 h2
  cases rv
  obtain ⟨h', t', e⟩ := st.same
  exact h s' (fun c o q => st.keep c o (by simp) q) (by rw [e]) (by rw [e])
end Mine
end

namespace Mine.head
theorem tw10010264046613662565 : True := trivial
theorem tw10015159338476511836 : True := trivial
theorem tw10018764681926925449 : True := trivial
theorem tw10021064610941686981 : True := trivial
theorem tw10066793327743970655 : True := trivial
theorem tw10070411193226618655 : True := trivial
theorem tw10079960370226730655 : True := trivial
theorem tw10105583180162433683 : True := trivial
theorem tw10110233660360586483 : True := trivial
theorem tw10116942457455264815 : True := trivial
theorem tw10128820837102578890 : True := trivial
theorem tw10170068340998493759 : True := trivial
theorem tw10205530081349824492 : True := trivial
theorem tw10242447542790323104 : True := trivial
theorem tw10258521583956687137 : True := trivial
theorem tw10270352894671993868 : True := trivial
theorem tw10307130028497402462 : True := trivial
theorem tw10323852489131834650 : True := trivial
theorem tw10333954764705244698 : True := trivial
theorem tw10340462753498674063 : True := trivial
theorem tw10356212845559719233 : True := trivial
theorem tw10371985647062452541 : True := trivial
theorem tw10389290468125465742 : True := trivial
theorem tw10400636543074173776 : True := trivial
theorem tw10431609616501453582 : True := trivial
theorem tw10467814448475477596 : True := trivial
theorem tw10470577562921762397 : True := trivial
theorem tw10472834687351259785 : True := trivial
theorem tw1050551135032985961 : True := trivial
theorem tw10510183946089719056 : True := trivial
theorem tw10510622979536455646 : True := trivial
theorem tw10519217271611395807 : True := trivial
theorem tw10521553517811329670 : True := trivial
theorem tw10533634037010066435 : True := trivial
theorem tw1056085985882870562 : True := trivial
theorem tw1057231242359075819 : True := trivial
theorem tw10573961123116132518 : True := trivial
theorem tw1061700454162486011 : True := trivial
theorem tw1062042127530464391 : True := trivial
theorem tw10668533816033670360 : True := trivial
theorem tw10698650227242318774 : True := trivial
theorem tw10706776884845955466 : True := trivial
theorem tw10730805705081004914 : True := trivial
theorem tw10735254221757914791 : True := trivial
theorem tw10736139440505347576 : True := trivial
theorem tw10746725682022337571 : True := trivial
theorem tw10765931590201843916 : True := trivial
theorem tw10786079294511566085 : True := trivial
theorem tw10812213935944405949 : True := trivial
theorem tw1082313596108445148 : True := trivial
theorem tw10845400790151957771 : True := trivial
theorem tw10865165270600546614 : True := trivial
theorem tw10872037306656784433 : True := trivial
theorem tw10875119458065257276 : True := trivial
theorem tw10900948863051656163 : True := trivial
theorem tw10936905620487946977 : True := trivial
theorem tw10948677003083999065 : True := trivial
theorem tw10987702880554017565 : True := trivial
theorem tw10988817232074504935 : True := trivial
theorem tw11005904730967762025 : True := trivial
theorem tw11052631288978436188 : True := trivial
theorem tw11060938730435951684 : True := trivial
theorem tw11063524718261073790 : True := trivial
theorem tw11081218982966106116 : True := trivial
theorem tw11097941207591946120 : True := trivial
theorem tw11105056867450500199 : True := trivial
theorem tw11124748197601291601 : True := trivial
theorem tw11180365069992382532 : True := trivial
theorem tw11194998557105285118 : True := trivial
theorem tw11220059238319058022 : True := trivial
theorem tw11289835788462762251 : True := trivial
theorem tw11290360913936777911 : True := trivial
theorem tw11305582741114486441 : True := trivial
theorem tw11338825007792423415 : True := trivial
theorem tw1134157569726261602 : True := trivial
theorem tw11402027661713467040 : True := trivial
theorem tw11426403942048686318 : True := trivial
theorem tw1146124256749630112 : True := trivial
theorem tw11484358847640170188 : True := trivial
theorem tw11484797826999851062 : True := trivial
theorem tw11485113708198979986 : True := trivial
theorem tw11544532188706048022 : True := trivial
theorem tw1155926839051525531 : True := trivial
theorem tw11569442021236766091 : True := trivial
theorem tw11582096051123008839 : True := trivial
theorem tw11597336398036118778 : True := trivial
theorem tw11613311375368785083 : True := trivial
theorem tw11628534518673281344 : True := trivial
theorem tw11629762434490789354 : True := trivial
theorem tw11636873012791513418 : True := trivial
theorem tw11645891519345141215 : True := trivial
theorem tw11680266561614322678 : True := trivial
theorem tw11692735721529064706 : True := trivial
theorem tw11704837465938651953 : True := trivial
theorem tw11714945338242495837 : True := trivial
theorem tw11715283913529211631 : True := trivial
theorem tw11724780754615379514 : True := trivial
theorem tw1172538174109094731 : True := trivial
theorem tw11732908120936727654 : True := trivial
theorem tw11821203517306503961 : True := trivial
theorem tw11893822550167381502 : True := trivial
theorem tw11904684991359361074 : True := trivial
theorem tw11923155195566972133 : True := trivial
theorem tw11925700103697007601 : True := trivial
theorem tw11998209505049934977 : True := trivial
theorem tw12024539317367501503 : True := trivial
theorem tw12030227955564427263 : True := trivial
theorem tw12032222614953749359 : True := trivial
theorem tw12037728316022314418 : True := trivial
theorem tw12043669396524033845 : True := trivial
theorem tw12074249297620881909 : True := trivial
theorem tw12095829319087573521 : True := trivial
theorem tw1211024037004892549 : True := trivial
theorem tw12120646240234225243 : True := trivial
theorem tw1212124681294104184 : True := trivial
theorem tw12147184966966947637 : True := trivial
theorem tw12157662564070965069 : True := trivial
theorem tw12182850187970735909 : True := trivial
theorem tw12201952087667049370 : True := trivial
theorem tw12205659690895024086 : True := trivial
theorem tw12207028300977255130 : True := trivial
theorem tw12212823987433534256 : True := trivial
theorem tw12214093580764582487 : True := trivial
theorem tw12242023697086250348 : True := trivial
theorem tw12242153458792446204 : True := trivial
theorem tw12244833863542804788 : True := trivial
theorem tw1224924573807776437 : True := trivial
theorem tw12275693417441809861 : True := trivial
theorem tw12287978374625458572 : True := trivial
theorem tw12310735299239354703 : True := trivial
theorem tw12324890628731678277 : True := trivial
theorem tw12328230846540189838 : True := trivial
theorem tw12330954535739239725 : True := trivial
theorem tw12344544660321961925 : True := trivial
theorem tw12359489953124434286 : True := trivial
theorem tw12362083183470981646 : True := trivial
theorem tw12364624919760631829 : True := trivial
theorem tw12394069701764826827 : True := trivial
theorem tw12398312691204496596 : True := trivial
theorem tw12417293695627231756 : True := trivial
theorem tw12427710115714267126 : True := trivial
theorem tw12428389735305899900 : True := trivial
theorem tw12460202669355646752 : True := trivial
theorem tw12472887615940459650 : True := trivial
theorem tw12475708393154427166 : True := trivial
theorem tw12478146576626367362 : True := trivial
theorem tw12573619785200380473 : True := trivial
theorem tw12581593161143036515 : True := trivial
theorem tw12596154207471609045 : True := trivial
theorem tw12601080634535202701 : True := trivial
theorem tw12604462930493870256 : True := trivial
theorem tw12611893724949602041 : True := trivial
theorem tw12630350610049390935 : True := trivial
theorem tw12666380852390969779 : True := trivial
theorem tw12668424612319814730 : True := trivial
theorem tw12682429181067543257 : True := trivial
theorem tw12695399030622205104 : True := trivial
theorem tw12704426703380559182 : True := trivial
theorem tw1272635626206103303 : True := trivial
theorem tw12727220549172885185 : True := trivial
theorem tw12741294794224977040 : True := trivial
theorem tw12763952150808568291 : True := trivial
theorem tw12764128322984676335 : True := trivial
theorem tw1276956409769668328 : True := trivial
theorem tw12773685731770592110 : True := trivial
theorem tw12775505166333009402 : True := trivial
theorem tw12795389718870424448 : True := trivial
theorem tw12799966317143952679 : True := trivial
theorem tw12822298378996975857 : True := trivial
theorem tw12841863872788715202 : True := trivial
theorem tw12851702773856589430 : True := trivial
theorem tw12853517657998171495 : True := trivial
theorem tw12856577281151766611 : True := trivial
theorem tw12858780395421280599 : True := trivial
theorem tw12865059321931465230 : True := trivial
theorem tw12870424476946447624 : True := trivial
theorem tw12875325457547866274 : True := trivial
theorem tw12892129938458570674 : True := trivial
theorem tw12903917746401883607 : True := trivial
theorem tw12908475990344208633 : True := trivial
theorem tw1291722185910714397 : True := trivial
theorem tw12942713027217397852 : True := trivial
theorem tw12987040726578829979 : True := trivial
theorem tw12998212659555988865 : True := trivial
theorem tw13002585709282622103 : True := trivial
theorem tw13017206433863751270 : True := trivial
theorem tw13137911371727378231 : True := trivial
theorem tw13180129090757240718 : True := trivial
theorem tw1318689175770300589 : True := trivial
theorem tw13198292447841614426 : True := trivial
theorem tw13199516396595161752 : True := trivial
theorem tw1319983325249436295 : True := trivial
theorem tw13213268828098156179 : True := trivial
theorem tw13246386896891170512 : True := trivial
theorem tw13249071542605338262 : True := trivial
theorem tw13276723143375012678 : True := trivial
theorem tw13294958713779813728 : True := trivial
theorem tw13295082483830516422 : True := trivial
theorem tw13302000197689972861 : True := trivial
theorem tw13335025841360890868 : True := trivial
theorem tw13353151263460963528 : True := trivial
theorem tw13357441389134331599 : True := trivial
theorem tw13379354915994877463 : True := trivial
theorem tw13381877923881390905 : True := trivial
theorem tw13397106695672350980 : True := trivial
theorem tw13504307299585405616 : True := trivial
theorem tw13508044439285423174 : True := trivial
theorem tw13510609219080548989 : True := trivial
theorem tw13537664574400122534 : True := trivial
theorem tw13585267454733459922 : True := trivial
theorem tw13600378441667735501 : True := trivial
theorem tw13637325136056909300 : True := trivial
theorem tw13653928888864918839 : True := trivial
theorem tw13664066127859960707 : True := trivial
theorem tw13689084217373910675 : True := trivial
theorem tw13697588214506672789 : True := trivial
theorem tw13743032657059413451 : True := trivial
theorem tw13750642191701924398 : True := trivial
theorem tw13801937863458859944 : True := trivial
theorem tw13846591363081406657 : True := trivial
theorem tw13896987355042952010 : True := trivial
theorem tw13906610036690215845 : True := trivial
theorem tw13910694723763315657 : True := trivial
theorem tw13917482298092908234 : True := trivial
theorem tw13942192884097748152 : True := trivial
theorem tw13954853420313727417 : True := trivial
theorem tw13975004164348656555 : True := trivial
theorem tw1398043889541792783 : True := trivial
theorem tw13986843968525588388 : True := trivial
theorem tw13999681649124312864 : True := trivial
theorem tw140066278072042493 : True := trivial
theorem tw14028522991509751376 : True := trivial
theorem tw14059167943309011982 : True := trivial
theorem tw14078167904914714981 : True := trivial
theorem tw14083850284487924763 : True := trivial
theorem tw14086173767186703872 : True := trivial
theorem tw14090159008775844135 : True := trivial
theorem tw14112051064653734678 : True := trivial
theorem tw14127983276867164173 : True := trivial
theorem tw14139502460874162764 : True := trivial
theorem tw14149492867418468938 : True := trivial
theorem tw14158537116620707164 : True := trivial
theorem tw14168692526580214153 : True := trivial
theorem tw14195316510222423288 : True := trivial
theorem tw14234965402570480558 : True := trivial
theorem tw14235953900361662071 : True := trivial
theorem tw14241001667801471300 : True := trivial
theorem tw1425459126675767727 : True := trivial
theorem tw14306030232151103276 : True := trivial
theorem tw14330330676051879864 : True := trivial
theorem tw14344768424176206936 : True := trivial
theorem tw14364637388885140079 : True := trivial
theorem tw14385403278947933607 : True := trivial
theorem tw1438866918597655640 : True := trivial
theorem tw14393718171448925343 : True := trivial
theorem tw14412733801367601576 : True := trivial
theorem tw14417885227837004991 : True := trivial
theorem tw14427283581363961175 : True := trivial
theorem tw14429822130985059091 : True := trivial
theorem tw14488727979953464203 : True := trivial
theorem tw14492117785962260688 : True := trivial
theorem tw14512941343882779238 : True := trivial
theorem tw14513887754847984766 : True := trivial
theorem tw14565420633037775528 : True := trivial
theorem tw1457377512435260902 : True := trivial
theorem tw14586503196746008701 : True := trivial
theorem tw14597329475937083939 : True := trivial
theorem tw14615432700455777464 : True := trivial
theorem tw14628233357713752721 : True := trivial
theorem tw14631306762972528136 : True := trivial
theorem tw1463646239528298992 : True := trivial
theorem tw14637134836413734856 : True := trivial
theorem tw14643560169476415855 : True := trivial
theorem tw14643959010103036307 : True := trivial
theorem tw14646466228836335164 : True := trivial
theorem tw14667470093908496907 : True := trivial
theorem tw14676189674455941282 : True := trivial
theorem tw14699528089545365996 : True := trivial
theorem tw14720509044617813951 : True := trivial
theorem tw1472379273497163797 : True := trivial
theorem tw14735301032572234722 : True := trivial
theorem tw14740928361383774428 : True := trivial
theorem tw14744981736328886265 : True := trivial
theorem tw14746898714274692784 : True := trivial
theorem tw14759185912286986992 : True := trivial
theorem tw14768688571040804171 : True := trivial
theorem tw14788773977795034992 : True := trivial
theorem tw14818019229276831692 : True := trivial
theorem tw14842460003800876886 : True := trivial
theorem tw14843749296085226474 : True := trivial
theorem tw14882813523228863612 : True := trivial
theorem tw1489404036187247834 : True := trivial
theorem tw14909605222495392915 : True := trivial
theorem tw14946772226789246504 : True := trivial
theorem tw14956371261235936329 : True := trivial
theorem tw1495726902847802894 : True := trivial
theorem tw14969385696402013904 : True := trivial
theorem tw14982685227137828758 : True := trivial
theorem tw14983349147647662914 : True := trivial
theorem tw1499353310998574721 : True := trivial
theorem tw14999265807660949796 : True := trivial
theorem tw15001418939266856263 : True := trivial
theorem tw1503407388533364548 : True := trivial
theorem tw15039987702171664376 : True := trivial
theorem tw15052771764104931649 : True := trivial
theorem tw1506576300011279404 : True := trivial
theorem tw15091486752826498866 : True := trivial
theorem tw15095179193122606544 : True := trivial
theorem tw15112835437128306455 : True := trivial
theorem tw15127644999133008818 : True := trivial
theorem tw15142167089309388077 : True := trivial
theorem tw15148963937461231693 : True := trivial
theorem tw15171285062763278426 : True := trivial
theorem tw15181326774706428367 : True := trivial
theorem tw1519320592345488741 : True := trivial
theorem tw15215111219801757744 : True := trivial
theorem tw1522823579158628613 : True := trivial
theorem tw1524684057812940815 : True := trivial
theorem tw15248001044337979736 : True := trivial
theorem tw15250023729529759990 : True := trivial
theorem tw15253846138512369154 : True := trivial
theorem tw15256841493749336786 : True := trivial
theorem tw15263674166054382079 : True := trivial
theorem tw15296082917334920728 : True := trivial
theorem tw15317023959539522800 : True := trivial
theorem tw15326552575505426906 : True := trivial
theorem tw15328847239876097677 : True := trivial
theorem tw15399148058966210843 : True := trivial
theorem tw15410735652082386980 : True := trivial
theorem tw15436542981012472205 : True := trivial
theorem tw15452280279296900796 : True := trivial
theorem tw15501141472565082077 : True := trivial
theorem tw15506723302920939300 : True := trivial
theorem tw15510365090734361527 : True := trivial
theorem tw15520248196984853422 : True := trivial
theorem tw15539854500240908086 : True := trivial
theorem tw15564447279633807951 : True := trivial
theorem tw15582730294447300881 : True := trivial
theorem tw15604011560834605598 : True := trivial
theorem tw15638870477510070732 : True := trivial
theorem tw15647610678857825673 : True := trivial
theorem tw15656768269340197940 : True := trivial
theorem tw15666658371737129944 : True := trivial
theorem tw15676425527210111115 : True := trivial
theorem tw15682741785845805564 : True := trivial
theorem tw15735840784391694233 : True := trivial
theorem tw15779500811904541264 : True := trivial
theorem tw15782939476341012554 : True := trivial
theorem tw15785421084128741142 : True := trivial
theorem tw15794997505209512671 : True := trivial
theorem tw15798066900824788120 : True := trivial
theorem tw15827502805916655846 : True := trivial
theorem tw15832300201269216667 : True := trivial
theorem tw15840312062823119879 : True := trivial
theorem tw15841401105113185080 : True := trivial
theorem tw1588943658860677225 : True := trivial
theorem tw15894371620910866019 : True := trivial
theorem tw15895551434495452948 : True := trivial
theorem tw15895748673760503845 : True := trivial
theorem tw15898109809663626304 : True := trivial
theorem tw15898970277018273793 : True := trivial
theorem tw1593561654347908568 : True := trivial
theorem tw15967466079928408925 : True := trivial
theorem tw15978427065635505109 : True := trivial
theorem tw16014373381606645092 : True := trivial
theorem tw16031315777459398524 : True := trivial
theorem tw16055944274796611463 : True := trivial
theorem tw16065720564569863766 : True := trivial
theorem tw16072502192527678464 : True := trivial
theorem tw16078238667976319046 : True := trivial
theorem tw1608297297296620843 : True := trivial
theorem tw16111715859725283846 : True := trivial
theorem tw16128420640991077102 : True := trivial
theorem tw16166440364842034014 : True := trivial
theorem tw16169396229317227677 : True := trivial
theorem tw16172288393029767808 : True := trivial
theorem tw16172356507618199906 : True := trivial
theorem tw1618804561499322139 : True := trivial
theorem tw16226220715811633075 : True := trivial
theorem tw16272097951300814418 : True := trivial
theorem tw16278871845796110771 : True := trivial
theorem tw16291991722392533869 : True := trivial
theorem tw16310391890351198594 : True := trivial
theorem tw16385634705727604063 : True := trivial
theorem tw16415787539773345739 : True := trivial
theorem tw1642545813376747948 : True := trivial
theorem tw1643771367246577777 : True := trivial
theorem tw16446913148795680959 : True := trivial
theorem tw16470739840699324481 : True := trivial
theorem tw16472945084836616533 : True := trivial
theorem tw16481179823495478772 : True := trivial
theorem tw16530349751119242087 : True := trivial
theorem tw16545597347906280737 : True := trivial
theorem tw16579250180923337425 : True := trivial
theorem tw16582591585412914238 : True := trivial
theorem tw16604199759994364997 : True := trivial
theorem tw16640130746408290383 : True := trivial
theorem tw16647155751929229394 : True := trivial
theorem tw16659920880120507502 : True := trivial
theorem tw16695014060947850149 : True := trivial
theorem tw16703865258624009325 : True := trivial
theorem tw16714887947964762639 : True := trivial
theorem tw1673358830478937286 : True := trivial
theorem tw16769997242578385675 : True := trivial
theorem tw16782820856776367440 : True := trivial
theorem tw16800043278716471037 : True := trivial
theorem tw16817119741492734445 : True := trivial
theorem tw16821450928103126590 : True := trivial
theorem tw16828514060538661750 : True := trivial
theorem tw16847831306532103052 : True := trivial
theorem tw16871623187472473471 : True := trivial
theorem tw16874305072444578374 : True := trivial
theorem tw1687793838685487538 : True := trivial
theorem tw16888070154925205155 : True := trivial
theorem tw1689142752476645926 : True := trivial
theorem tw16894393574925625578 : True := trivial
theorem tw16894561301568121468 : True := trivial
theorem tw16903022960794457021 : True := trivial
theorem tw16917608666046251313 : True := trivial
theorem tw16922147877168347812 : True := trivial
theorem tw1693818546310300448 : True := trivial
theorem tw16962450398199861240 : True := trivial
theorem tw16974685034882416825 : True := trivial
theorem tw16984083398119652359 : True := trivial
theorem tw16997897962222511 : True := trivial
theorem tw17002534310236347988 : True := trivial
theorem tw17007033763367706731 : True := trivial
theorem tw17008234436448823602 : True := trivial
theorem tw17014734716931888790 : True := trivial
theorem tw17015032458148788900 : True := trivial
theorem tw17024340208454683379 : True := trivial
theorem tw17037872496334206203 : True := trivial
theorem tw17039324001796647390 : True := trivial
theorem tw17047625674926534286 : True := trivial
theorem tw17050696954950088759 : True := trivial
theorem tw17093656651364094606 : True := trivial
theorem tw17113217626458354986 : True := trivial
theorem tw17129914584562691343 : True := trivial
theorem tw17142359554024780413 : True := trivial
theorem tw1714602735852981970 : True := trivial
theorem tw17156091980717111821 : True := trivial
theorem tw17173245716831642929 : True := trivial
theorem tw17188840073816181307 : True := trivial
theorem tw1718890006036334650 : True := trivial
theorem tw17190349231170142043 : True := trivial
theorem tw17194126546080390198 : True := trivial
theorem tw17197444120159719569 : True := trivial
theorem tw17212568112599259466 : True := trivial
theorem tw17243387458012846398 : True := trivial
theorem tw17262968490309938674 : True := trivial
theorem tw17265401458761052179 : True := trivial
theorem tw17275705279478898512 : True := trivial
theorem tw1728724042893426364 : True := trivial
theorem tw17297054508065495485 : True := trivial
theorem tw17304152732226823993 : True := trivial
theorem tw17332727794074296334 : True := trivial
theorem tw17346037399652195860 : True := trivial
theorem tw17348764703882912863 : True := trivial
theorem tw17377423518514600169 : True := trivial
theorem tw17411354535832351560 : True := trivial
theorem tw174166394780034911 : True := trivial
theorem tw17444863063712431705 : True := trivial
theorem tw17453365369857097546 : True := trivial
theorem tw17458890533420659534 : True := trivial
theorem tw17464823870196871000 : True := trivial
theorem tw1748456618969930982 : True := trivial
theorem tw17486074103640542121 : True := trivial
theorem tw17522360388414511382 : True := trivial
theorem tw17525636777796739105 : True := trivial
theorem tw17539234302018041193 : True := trivial
theorem tw17541063381433097499 : True := trivial
theorem tw17552560543380974038 : True := trivial
theorem tw17553620660974883448 : True := trivial
theorem tw1756991915124769162 : True := trivial
theorem tw17573037796337583832 : True := trivial
theorem tw17608190574486352970 : True := trivial
theorem tw17625619411348890933 : True := trivial
theorem tw17646911460466567920 : True := trivial
theorem tw1764952784847918493 : True := trivial
theorem tw17658000642845759554 : True := trivial
theorem tw1766074496371839085 : True := trivial
theorem tw17674571679781333832 : True := trivial
theorem tw17698105195316432488 : True := trivial
theorem tw17700853532424174462 : True := trivial
theorem tw17725469503822016867 : True := trivial
theorem tw17768545326873755256 : True := trivial
theorem tw17769433529836712537 : True := trivial
theorem tw17782148633632673465 : True := trivial
theorem tw17783093436913651231 : True := trivial
theorem tw17784522201281872271 : True := trivial
theorem tw17784925447008408576 : True := trivial
theorem tw17788742646020836255 : True := trivial
theorem tw17821319399108415887 : True := trivial
theorem tw17826015225549371706 : True := trivial
theorem tw17836260108008149386 : True := trivial
theorem tw17836618258811950860 : True := trivial
theorem tw17844492200522320778 : True := trivial
theorem tw17850378814381688901 : True := trivial
theorem tw17854896373637125580 : True := trivial
theorem tw1786199778172832133 : True := trivial
theorem tw17890245599415353634 : True := trivial
theorem tw17894702793023417833 : True := trivial
theorem tw17905491414393134947 : True := trivial
theorem tw17958272820484234708 : True := trivial
theorem tw17972497016974392416 : True := trivial
theorem tw17975491588444890076 : True := trivial
theorem tw17988201657351507238 : True := trivial
theorem tw17993767162375566018 : True := trivial
theorem tw18007968972792079559 : True := trivial
theorem tw18014224886719972007 : True := trivial
theorem tw18051680202136193954 : True := trivial
theorem tw1805750339796752242 : True := trivial
theorem tw18060483585939721653 : True := trivial
theorem tw18080951475816111786 : True := trivial
theorem tw18081138779251354973 : True := trivial
theorem tw18095809974233413182 : True := trivial
theorem tw18100283295969611417 : True := trivial
theorem tw18123143868385100064 : True := trivial
theorem tw18125128294737035143 : True := trivial
theorem tw18165431152234640623 : True := trivial
theorem tw18176413224385145225 : True := trivial
theorem tw18177665153149118353 : True := trivial
theorem tw18192872963121912645 : True := trivial
theorem tw18215824643853355119 : True := trivial
theorem tw18254194996027185994 : True := trivial
theorem tw18260194641540637818 : True := trivial
theorem tw18277060748420158845 : True := trivial
theorem tw18282902561792777199 : True := trivial
theorem tw1832916270232011604 : True := trivial
theorem tw18332285231265401824 : True := trivial
theorem tw18332689328565389885 : True := trivial
theorem tw18416563613846182222 : True := trivial
theorem tw18419137052163196841 : True := trivial
theorem tw18433677622606106133 : True := trivial
theorem tw1852205218256702202 : True := trivial
theorem tw1858156416291392539 : True := trivial
theorem tw1858285994304674589 : True := trivial
theorem tw1894759731626308040 : True := trivial
theorem tw1906429620130506887 : True := trivial
theorem tw1914692607248247194 : True := trivial
theorem tw1917425121527220963 : True := trivial
theorem tw1919001801439425371 : True := trivial
theorem tw1937370526825066196 : True := trivial
theorem tw1939405473400901271 : True := trivial
theorem tw1966224132733831507 : True := trivial
theorem tw1970811146720035896 : True := trivial
theorem tw1971652810694446911 : True := trivial
theorem tw1992862871153497056 : True := trivial
theorem tw1995287165650055613 : True := trivial
theorem tw2007852463679175192 : True := trivial
theorem tw2035680199648653684 : True := trivial
theorem tw2066564036433440168 : True := trivial
theorem tw2096541523181747872 : True := trivial
theorem tw2118377178292867602 : True := trivial
theorem tw2123727595537733498 : True := trivial
theorem tw2154566216772986472 : True := trivial
theorem tw2172669909848549399 : True := trivial
theorem tw21988315779104480 : True := trivial
theorem tw2201313380682377074 : True := trivial
theorem tw2232109503444375002 : True := trivial
theorem tw2237326684586592538 : True := trivial
theorem tw2241628862621589225 : True := trivial
theorem tw2260579728952749127 : True := trivial
theorem tw2298694737197419510 : True := trivial
theorem tw2307047085170396653 : True := trivial
theorem tw2326617092838664518 : True := trivial
theorem tw2340069552987342377 : True := trivial
theorem tw2342417691235652057 : True := trivial
theorem tw2343260813663018654 : True := trivial
theorem tw2350586252961548244 : True := trivial
theorem tw2393098407364606883 : True := trivial
theorem tw2393937325987436248 : True := trivial
theorem tw2400818531096893172 : True := trivial
theorem tw2413573451304230806 : True := trivial
theorem tw2417591901434828539 : True := trivial
theorem tw2428695696106030784 : True := trivial
theorem tw2437478716016495240 : True := trivial
theorem tw2441957057352720082 : True := trivial
theorem tw2491421050496283774 : True := trivial
theorem tw2506711637615833298 : True := trivial
theorem tw2518057956044344595 : True := trivial
theorem tw2529948359932261575 : True := trivial
theorem tw2545145822199252752 : True := trivial
theorem tw2554682012703037696 : True := trivial
theorem tw2588942769649879372 : True := trivial
theorem tw2591067827882107080 : True := trivial
theorem tw2599346099135257874 : True := trivial
theorem tw2624612372273768290 : True := trivial
theorem tw2625984366357065906 : True := trivial
theorem tw262713603470380999 : True := trivial
theorem tw266100023129296208 : True := trivial
theorem tw2705560170217086799 : True := trivial
theorem tw2728595385866086531 : True := trivial
theorem tw2753283235347674219 : True := trivial
theorem tw2760189568479381244 : True := trivial
theorem tw2764016085172604524 : True := trivial
theorem tw2797894973233656403 : True := trivial
theorem tw2800570052845255841 : True := trivial
theorem tw284086516184904499 : True := trivial
theorem tw2857895335220236748 : True := trivial
theorem tw2864405669816312776 : True := trivial
theorem tw2876011056497122456 : True := trivial
theorem tw2879759524354350568 : True := trivial
theorem tw290710125855613696 : True := trivial
theorem tw2907111362388958804 : True := trivial
theorem tw2973143901146584636 : True := trivial
theorem tw2976249973925969801 : True := trivial
theorem tw2994772191003457714 : True := trivial
theorem tw300626226527484142 : True := trivial
theorem tw3021114989795446570 : True := trivial
theorem tw3027932573228621659 : True := trivial
theorem tw3062044705579621278 : True := trivial
theorem tw3083302935323014018 : True := trivial
theorem tw3088210815446039105 : True := trivial
theorem tw3103639331685909893 : True := trivial
theorem tw3127049524044150859 : True := trivial
theorem tw315434073420411817 : True := trivial
theorem tw3171451927456968151 : True := trivial
theorem tw3185377453876500656 : True := trivial
theorem tw3186774066764743411 : True := trivial
theorem tw3212073173673764245 : True := trivial
theorem tw3223962053107752630 : True := trivial
theorem tw322437386772585718 : True := trivial
theorem tw3254172550106833301 : True := trivial
theorem tw3264716943610762504 : True := trivial
theorem tw3270352941656771521 : True := trivial
theorem tw3290047583113660281 : True := trivial
theorem tw3304075619188804072 : True := trivial
theorem tw3321875119742208626 : True := trivial
theorem tw3340124654517525194 : True := trivial
theorem tw3342127626655828140 : True := trivial
theorem tw33573280608776797 : True := trivial
theorem tw3368474557548986910 : True := trivial
theorem tw3390878434225100092 : True := trivial
theorem tw3405375401864073989 : True := trivial
theorem tw3443843633189435694 : True := trivial
theorem tw3453547403478019728 : True := trivial
theorem tw3453787792041028874 : True := trivial
theorem tw3496171461512900480 : True := trivial
theorem tw3500380475922496097 : True := trivial
theorem tw3501597964444990463 : True := trivial
theorem tw3514389088698752745 : True := trivial
theorem tw3547030090768783262 : True := trivial
theorem tw3547240966391284428 : True := trivial
theorem tw3547811175951651099 : True := trivial
theorem tw3548660455928884018 : True := trivial
theorem tw3556061257289618393 : True := trivial
theorem tw3581614266968435656 : True := trivial
theorem tw3604701254548876123 : True := trivial
theorem tw3615648651819825313 : True := trivial
theorem tw3616486834168423931 : True := trivial
theorem tw3651205649096709438 : True := trivial
theorem tw3659646283403374670 : True := trivial
theorem tw3665506230870052707 : True := trivial
theorem tw3688799982635324794 : True := trivial
theorem tw3696042808614700290 : True := trivial
theorem tw3715144110773694964 : True := trivial
theorem tw3715584954343283195 : True := trivial
theorem tw3746228215898030841 : True := trivial
theorem tw3749026756887285471 : True := trivial
theorem tw3790771472595898956 : True := trivial
theorem tw3794523003379204399 : True := trivial
theorem tw380116879960591498 : True := trivial
theorem tw381453634507594109 : True := trivial
theorem tw3821945547825155762 : True := trivial
theorem tw3863384581746538084 : True := trivial
theorem tw3869590956505411354 : True := trivial
theorem tw3880867118405822719 : True := trivial
theorem tw3928599903575798129 : True := trivial
theorem tw3944913497352057107 : True := trivial
theorem tw3973953319845086491 : True := trivial
theorem tw3980653432952411973 : True := trivial
theorem tw3986194592780655508 : True := trivial
theorem tw3991279037241028524 : True := trivial
theorem tw4005429485061764775 : True := trivial
theorem tw4009957668330374740 : True := trivial
theorem tw4017301010375394790 : True := trivial
theorem tw4018983750718401802 : True := trivial
theorem tw4023466491090337370 : True := trivial
theorem tw4053978428183960486 : True := trivial
theorem tw4154363929692500862 : True := trivial
theorem tw4160124254940468481 : True := trivial
theorem tw4163069186122357367 : True := trivial
theorem tw4176204533620912855 : True := trivial
theorem tw4235852798576303577 : True := trivial
theorem tw4239589573987675453 : True := trivial
theorem tw4273228799998304602 : True := trivial
theorem tw4311042196063409733 : True := trivial
theorem tw4318500180640689126 : True := trivial
theorem tw4381510469713062047 : True := trivial
theorem tw4387028780061031483 : True := trivial
theorem tw4389056084150536348 : True := trivial
theorem tw4389747894416019800 : True := trivial
theorem tw4405734404675932169 : True := trivial
theorem tw4407807290196491609 : True := trivial
theorem tw4415685298772064003 : True := trivial
theorem tw4419558321834357505 : True := trivial
theorem tw4431047558782702586 : True := trivial
theorem tw4433315090154635215 : True := trivial
theorem tw4459827165573595772 : True := trivial
theorem tw44622916816846810 : True := trivial
theorem tw4473611206160876864 : True := trivial
theorem tw45052839361067614 : True := trivial
theorem tw4528443807372415038 : True := trivial
theorem tw4576125674228380541 : True := trivial
theorem tw4585157591006285545 : True := trivial
theorem tw4607607821588926596 : True := trivial
theorem tw4652900348082922388 : True := trivial
theorem tw466721876749952763 : True := trivial
theorem tw467416434755642258 : True := trivial
theorem tw4691952243595246448 : True := trivial
theorem tw4745870285974543420 : True := trivial
theorem tw4764554697811233 : True := trivial
theorem tw4834694072379752904 : True := trivial
theorem tw4839655697589452165 : True := trivial
theorem tw48543519692965452 : True := trivial
theorem tw4857777746444614323 : True := trivial
theorem tw4885112425497105109 : True := trivial
theorem tw4932745802714450591 : True := trivial
theorem tw4945251732147069371 : True := trivial
theorem tw4947412792043415962 : True := trivial
theorem tw4964814941381164201 : True := trivial
theorem tw4965378191221513410 : True := trivial
theorem tw4972248218790579157 : True := trivial
theorem tw497287684792784471 : True := trivial
theorem tw4975070653579243887 : True := trivial
theorem tw4991397462208424806 : True := trivial
theorem tw4993741786232285773 : True := trivial
theorem tw5015311536963163689 : True := trivial
theorem tw5061997093462229610 : True := trivial
theorem tw5092371620264689978 : True := trivial
theorem tw5096742575497195690 : True := trivial
theorem tw5104563664521345299 : True := trivial
theorem tw5129340602016612638 : True := trivial
theorem tw5129616035191883695 : True := trivial
theorem tw5130157460393195706 : True := trivial
theorem tw5140934472235413692 : True := trivial
theorem tw5141578139466067413 : True := trivial
theorem tw5182153607120983317 : True := trivial
theorem tw5187041380464763778 : True := trivial
theorem tw5240702290290941181 : True := trivial
theorem tw5250025526955580050 : True := trivial
theorem tw5271886537152271918 : True := trivial
theorem tw527386997569798941 : True := trivial
theorem tw5274623360512300857 : True := trivial
theorem tw5319049981483164881 : True := trivial
theorem tw532055438628499158 : True := trivial
theorem tw5331137831679937033 : True := trivial
theorem tw533756555076263647 : True := trivial
theorem tw5353729903917744248 : True := trivial
theorem tw5363715690607933 : True := trivial
theorem tw5392078452651409485 : True := trivial
theorem tw5401097623525119610 : True := trivial
theorem tw5407718363533321033 : True := trivial
theorem tw5418945672586834282 : True := trivial
theorem tw5467695095851852608 : True := trivial
theorem tw5479459121986351116 : True := trivial
theorem tw5501060405047882677 : True := trivial
theorem tw5508695066786827253 : True := trivial
theorem tw5515381820778694223 : True := trivial
theorem tw5530688202465531804 : True := trivial
theorem tw5599997604879368025 : True := trivial
theorem tw5617373736292572815 : True := trivial
theorem tw5629256929840616583 : True := trivial
theorem tw5658499677264881363 : True := trivial
theorem tw5697773043789114877 : True := trivial
theorem tw5707341947614518954 : True := trivial
theorem tw5723944856813171866 : True := trivial
theorem tw5725584637647431893 : True := trivial
theorem tw5737951250597237232 : True := trivial
theorem tw573967197379146972 : True := trivial
theorem tw5751227541892866231 : True := trivial
theorem tw5764021196749891206 : True := trivial
theorem tw578259024812056932 : True := trivial
theorem tw5788372791699333521 : True := trivial
theorem tw5797013207949663412 : True := trivial
theorem tw5844781237557850387 : True := trivial
theorem tw5865467396996320769 : True := trivial
theorem tw5869485362099743711 : True := trivial
theorem tw5870146547769353613 : True := trivial
theorem tw5874639182527098836 : True := trivial
theorem tw5881713671565795756 : True := trivial
theorem tw5894247764576360081 : True := trivial
theorem tw5901594920499545818 : True := trivial
theorem tw5906749814970224870 : True := trivial
theorem tw5915552362696249034 : True := trivial
theorem tw5927865893512547691 : True := trivial
theorem tw5944183977427860380 : True := trivial
theorem tw5944575059761466720 : True := trivial
theorem tw5973763720392745831 : True := trivial
theorem tw5986637957666399235 : True := trivial
theorem tw5987550445186205895 : True := trivial
theorem tw5996384718915585738 : True := trivial
theorem tw604627371996746742 : True := trivial
theorem tw6053349399257934933 : True := trivial
theorem tw6053997905714604814 : True := trivial
theorem tw6079359036626576793 : True := trivial
theorem tw6085824867444503733 : True := trivial
theorem tw6088685845774392931 : True := trivial
theorem tw6099028997845504075 : True := trivial
theorem tw6100774026682323163 : True := trivial
theorem tw6121141971511671821 : True := trivial
theorem tw6153569298028143949 : True := trivial
theorem tw6157079530059567975 : True := trivial
theorem tw6161856959107265637 : True := trivial
theorem tw6174258528820157971 : True := trivial
theorem tw6202090305015876224 : True := trivial
theorem tw6207834228037699737 : True := trivial
theorem tw6211381574409162282 : True := trivial
theorem tw6212921109956642855 : True := trivial
theorem tw6226413525154113608 : True := trivial
theorem tw6229939688011154569 : True := trivial
theorem tw6232644224018631296 : True := trivial
theorem tw6237802210402583469 : True := trivial
theorem tw6240353410654795137 : True := trivial
theorem tw6247268493268985975 : True := trivial
theorem tw6260244149815935644 : True := trivial
theorem tw6265338273532641288 : True := trivial
theorem tw6304676298305806467 : True := trivial
theorem tw6307057079134178644 : True := trivial
theorem tw6327039764776113722 : True := trivial
theorem tw6342581108930332356 : True := trivial
theorem tw6369041477666114370 : True := trivial
theorem tw6379358179555706155 : True := trivial
theorem tw6402496994288996404 : True := trivial
theorem tw6426539377367359892 : True := trivial
theorem tw6474009502463322548 : True := trivial
theorem tw6489421142724028100 : True := trivial
theorem tw649443455394278489 : True := trivial
theorem tw6497301856786237229 : True := trivial
theorem tw6507506987150044280 : True := trivial
theorem tw6518409114910312394 : True := trivial
theorem tw6521490308693473283 : True := trivial
theorem tw6522505103286579628 : True := trivial
theorem tw6526830475164118762 : True := trivial
theorem tw6536181036136497285 : True := trivial
theorem tw6544681653968885310 : True := trivial
theorem tw6562009823351158392 : True := trivial
theorem tw6585138550035349233 : True := trivial
theorem tw6588589085864783938 : True := trivial
theorem tw6595020158993437323 : True := trivial
theorem tw6595276589069765893 : True := trivial
theorem tw6600165084710513979 : True := trivial
theorem tw6602476347957198060 : True := trivial
theorem tw6604829842348296887 : True := trivial
theorem tw6640010369347007910 : True := trivial
theorem tw6668890000431947556 : True := trivial
theorem tw6684681932595197013 : True := trivial
theorem tw6684978435548883818 : True := trivial
theorem tw6692803169904595997 : True := trivial
theorem tw67086481866811729 : True := trivial
theorem tw6737735255597943219 : True := trivial
theorem tw6751290297309308749 : True := trivial
theorem tw6763335052953634553 : True := trivial
theorem tw6772502638888315869 : True := trivial
theorem tw6791874446421159577 : True := trivial
theorem tw6836605351468522007 : True := trivial
theorem tw6836608696283027097 : True := trivial
theorem tw6846597200999610202 : True := trivial
theorem tw6846866878297920324 : True := trivial
theorem tw6857060684267632606 : True := trivial
theorem tw6858743491597560450 : True := trivial
theorem tw6870361546347238192 : True := trivial
theorem tw6871339299614917876 : True := trivial
theorem tw6880043348581005364 : True := trivial
theorem tw6889739017440866108 : True := trivial
theorem tw6910089277995645325 : True := trivial
theorem tw6930615606355531631 : True := trivial
theorem tw6931653728971238233 : True := trivial
theorem tw693309671712327132 : True := trivial
theorem tw6968674436765558698 : True := trivial
theorem tw69809265629811306 : True := trivial
theorem tw7013799640231393816 : True := trivial
theorem tw7020426759955784428 : True := trivial
theorem tw7044984988248179734 : True := trivial
theorem tw7046380642943354848 : True := trivial
theorem tw708152393587867187 : True := trivial
theorem tw7090939061502383884 : True := trivial
theorem tw709382114072422158 : True := trivial
theorem tw7096138990903361605 : True := trivial
theorem tw7119846925741900413 : True := trivial
theorem tw7148437315225170067 : True := trivial
theorem tw7156519585557434892 : True := trivial
theorem tw7161073391023584161 : True := trivial
theorem tw7179252675378151715 : True := trivial
theorem tw7181452741857391679 : True := trivial
theorem tw7195933706287572923 : True := trivial
theorem tw7218757217702219634 : True := trivial
theorem tw7253898381062576733 : True := trivial
theorem tw7256407767356113836 : True := trivial
theorem tw7272792461964422541 : True := trivial
theorem tw7277520189549225825 : True := trivial
theorem tw733406405333840765 : True := trivial
theorem tw7358512011923840914 : True := trivial
theorem tw7392004362435642628 : True := trivial
theorem tw739537129135343663 : True := trivial
theorem tw7396500232308049434 : True := trivial
theorem tw7404141018258913797 : True := trivial
theorem tw742351954350328859 : True := trivial
theorem tw7494366503370351645 : True := trivial
theorem tw7512725033676591148 : True := trivial
theorem tw7523532297153676066 : True := trivial
theorem tw7575806435727305068 : True := trivial
theorem tw7582878936473852414 : True := trivial
theorem tw7596824489109172434 : True := trivial
theorem tw7599496313472250701 : True := trivial
theorem tw7604411431414283762 : True := trivial
theorem tw7616930195647119758 : True := trivial
theorem tw7624658959004494543 : True := trivial
theorem tw7627683417492964911 : True := trivial
theorem tw763314674957123698 : True := trivial
theorem tw7659462814917621580 : True := trivial
theorem tw7661765248129044261 : True := trivial
theorem tw7680146299302783591 : True := trivial
theorem tw7688317290187622652 : True := trivial
theorem tw7704315382344345624 : True := trivial
theorem tw7705420606127192585 : True := trivial
theorem tw7732209734871044160 : True := trivial
theorem tw7734086686654790897 : True := trivial
theorem tw7743085818281968155 : True := trivial
theorem tw7748693106545578708 : True := trivial
theorem tw7758381527925395934 : True := trivial
theorem tw779419810087314491 : True := trivial
theorem tw7802898811600756450 : True := trivial
theorem tw780477332936465449 : True := trivial
theorem tw7805308653706644653 : True := trivial
theorem tw7835671542029378175 : True := trivial
theorem tw7846308304327970078 : True := trivial
theorem tw7876399200375917224 : True := trivial
theorem tw7893992939808209232 : True := trivial
theorem tw7906546307943345882 : True := trivial
theorem tw792300799171563205 : True := trivial
theorem tw7928285938522686346 : True := trivial
theorem tw7960053054240918295 : True := trivial
theorem tw7961726388155042601 : True := trivial
theorem tw7992697801930647134 : True := trivial
theorem tw7994106446794305319 : True := trivial
theorem tw8035625575855466936 : True := trivial
theorem tw8041981036286801607 : True := trivial
theorem tw8047541715743884091 : True := trivial
theorem tw807142644699662319 : True := trivial
theorem tw8100529080337985053 : True := trivial
theorem tw8101760021730824546 : True := trivial
theorem tw8159583801465064534 : True := trivial
theorem tw8169693465737517768 : True := trivial
theorem tw8172283286065499403 : True := trivial
theorem tw8185714761375850791 : True := trivial
theorem tw8187629637223713605 : True := trivial
theorem tw820421773197932041 : True := trivial
theorem tw8216834362191484069 : True := trivial
theorem tw8233501797433317147 : True := trivial
theorem tw8299393411229908732 : True := trivial
theorem tw8337448324364255386 : True := trivial
theorem tw8372164355529847743 : True := trivial
theorem tw8382746154173761051 : True := trivial
theorem tw8402214883040486957 : True := trivial
theorem tw8402328212356670530 : True := trivial
theorem tw8409189969818401543 : True := trivial
theorem tw8414573866900348196 : True := trivial
theorem tw8451055240067260542 : True := trivial
theorem tw8451290768687142514 : True := trivial
theorem tw8453659626754050520 : True := trivial
theorem tw8476099583838051002 : True := trivial
theorem tw8476951943066225111 : True := trivial
theorem tw8497721794823489343 : True := trivial
theorem tw851385035628625539 : True := trivial
theorem tw8518231567759158271 : True := trivial
theorem tw8534208459206503383 : True := trivial
theorem tw8535708456716222715 : True := trivial
theorem tw8546719886708726068 : True := trivial
theorem tw8549075639274686408 : True := trivial
theorem tw8550467674348477657 : True := trivial
theorem tw8569104457590258164 : True := trivial
theorem tw8586521899292070991 : True := trivial
theorem tw8595470254474955868 : True := trivial
theorem tw8603420104599213669 : True := trivial
theorem tw8610661140672950678 : True := trivial
theorem tw8627200689577751383 : True := trivial
theorem tw86301839051661876 : True := trivial
theorem tw8671685427711848851 : True := trivial
theorem tw8704771223992077307 : True := trivial
theorem tw8733578408476508925 : True := trivial
theorem tw8758324158161630591 : True := trivial
theorem tw8773370040425892893 : True := trivial
theorem tw8779439212235442006 : True := trivial
theorem tw8796753266530204203 : True := trivial
theorem tw8812403067679244497 : True := trivial
theorem tw8812732774380208333 : True := trivial
theorem tw8838475285390394957 : True := trivial
theorem tw883913982201973750 : True := trivial
theorem tw8866670633112419022 : True := trivial
theorem tw8874674299285249911 : True := trivial
theorem tw8881269060482585022 : True := trivial
theorem tw8895791426145780158 : True := trivial
theorem tw8988664977312594650 : True := trivial
theorem tw8997269238129315039 : True := trivial
theorem tw9030979908501067730 : True := trivial
theorem tw90575161674971029 : True := trivial
theorem tw9062998866958442273 : True := trivial
theorem tw9065935926736091543 : True := trivial
theorem tw907359911958329709 : True := trivial
theorem tw9082462177598256812 : True := trivial
theorem tw9083612298779875492 : True := trivial
theorem tw9089795715530709647 : True := trivial
theorem tw9092161234174349091 : True := trivial
theorem tw9101448428047585222 : True := trivial
theorem tw9103479521544129834 : True := trivial
theorem tw9107825763807709430 : True := trivial
theorem tw9114333099845857663 : True := trivial
theorem tw9133290819911140118 : True := trivial
theorem tw9145527808636388435 : True := trivial
theorem tw9171846695823722306 : True := trivial
theorem tw9186546921256032858 : True := trivial
theorem tw9196398404247428943 : True := trivial
theorem tw9197122456581196581 : True := trivial
theorem tw9202431907968578930 : True := trivial
theorem tw9213911765573242809 : True := trivial
theorem tw9214367901419015226 : True := trivial
theorem tw930087139818521243 : True := trivial
theorem tw9318794584737855082 : True := trivial
theorem tw9325057278558614444 : True := trivial
theorem tw9325123708862168440 : True := trivial
theorem tw9353324838224930552 : True := trivial
theorem tw9354026244260953042 : True := trivial
theorem tw9374387883903384206 : True := trivial
theorem tw9388430590476628193 : True := trivial
theorem tw940147379719373870 : True := trivial
theorem tw9407594320385231609 : True := trivial
theorem tw9429410737600211988 : True := trivial
theorem tw9449176361245260279 : True := trivial
theorem tw9464831228461672588 : True := trivial
theorem tw946586880256125082 : True := trivial
theorem tw9553506758532729402 : True := trivial
theorem tw9554096598146076520 : True := trivial
theorem tw9575541623215731522 : True := trivial
theorem tw9592777112578238593 : True := trivial
theorem tw9601497413559074677 : True := trivial
theorem tw9610264321537646536 : True := trivial
theorem tw9644850379433450445 : True := trivial
theorem tw9646481798937456297 : True := trivial
theorem tw9658139154387788515 : True := trivial
theorem tw9702098958229961203 : True := trivial
theorem tw9716329373054682134 : True := trivial
theorem tw9717200733822644074 : True := trivial
theorem tw9718778162690014751 : True := trivial
theorem tw9743709737119245314 : True := trivial
theorem tw9746458257258439470 : True := trivial
theorem tw9767149119325585590 : True := trivial
theorem tw976808484645153763 : True := trivial
theorem tw9777900189565919194 : True := trivial
theorem tw9802980913210911633 : True := trivial
theorem tw9823536610671039419 : True := trivial
theorem tw9827913525700040407 : True := trivial
theorem tw9966027542202029443 : True := trivial
theorem tw9978949632667528635 : True := trivial
theorem tw9984397402777080727 : True := trivial
theorem tw9987851973559822609 : True := trivial
theorem tw999222835498014148 : True := trivial
theorem tw9997931420998421608 : True := trivial
end Mine.head
set_option Elab.async true
set_option maxRecDepth 100000
set_option maxHeartbeats 0
theorem Mine.head : PySem.Challenge.rw_rr0110_01.Holds := by
  w_on
  o_law
  k_head
  (case hw => w_witness2)
  k_fill
  intro w s₀ s₁ mg mb G Y fa o pm cd doc dV kV ho hd hcd hD hmg hg args vals as hpre hlay hrd hwl hlo
  have KX := kIn_of Y
  refine Ground.open G ?_
  intro T B D TE TW
  have F := Mine.foundFor KX ⟨
    (by refine ⟨⟨by kernel_rfl, by kernel_rfl, by kernel_rfl⟩, ⟨by kernel_rfl, by kernel_rfl, by kernel_rfl⟩, fun x hx => ?_⟩; simp only [List.contains_iff_mem, List.mem_cons, List.not_mem_nil, or_false] at hx; rcases hx with rfl | rfl | rfl <;> exact ⟨by kernel_rfl, by kernel_rfl⟩),
    (by refine ⟨⟨by kernel_rfl, by kernel_rfl, by kernel_rfl⟩, ⟨by kernel_rfl, by kernel_rfl, by kernel_rfl⟩, fun x hx => ?_⟩; simp only [List.contains_iff_mem, List.mem_cons, List.not_mem_nil, or_false] at hx; rcases hx with rfl | rfl | rfl | rfl | rfl <;> exact ⟨by kernel_rfl, by kernel_rfl⟩),
    (by kernel_rfl),
    (by kernel_rfl),
    ⟨by kernel_rfl, ⟨by kernel_rfl, by kernel_rfl, by kernel_rfl⟩⟩,
    ⟨by kernel_rfl, ⟨by kernel_rfl, by kernel_rfl, by kernel_rfl⟩⟩,
    ⟨by kernel_rfl, ⟨by kernel_rfl, by kernel_rfl, by kernel_rfl⟩⟩,
    ⟨by kernel_rfl, ⟨by kernel_rfl, by kernel_rfl, by kernel_rfl⟩⟩,
    ⟨by kernel_rfl, ⟨by kernel_rfl, by kernel_rfl, by kernel_rfl⟩⟩,
    ⟨by kernel_rfl, ⟨by kernel_rfl, by kernel_rfl, by kernel_rfl⟩⟩,
    ⟨by kernel_rfl, ⟨by kernel_rfl, by kernel_rfl, by kernel_rfl⟩⟩,
    ⟨by kernel_rfl, ⟨by kernel_rfl, by kernel_rfl, by kernel_rfl⟩⟩,
    ⟨by kernel_rfl, ⟨by kernel_rfl, by kernel_rfl, by kernel_rfl⟩⟩,
    ⟨by kernel_rfl, ⟨by kernel_rfl, by kernel_rfl, by kernel_rfl⟩⟩,
    ⟨by kernel_rfl, ⟨by kernel_rfl, by kernel_rfl, by kernel_rfl⟩⟩,
    ⟨by kernel_rfl, ⟨by kernel_rfl, by kernel_rfl, by kernel_rfl⟩⟩,
    ⟨by kernel_rfl, ⟨by kernel_rfl, by kernel_rfl, by kernel_rfl⟩⟩,
    ⟨by kernel_rfl, ⟨by kernel_rfl, by kernel_rfl, by kernel_rfl⟩⟩,
    ⟨by kernel_rfl, ⟨by kernel_rfl, by kernel_rfl, by kernel_rfl⟩⟩,
    ⟨by kernel_rfl, ⟨by kernel_rfl, by kernel_rfl, by kernel_rfl⟩⟩,
    ⟨by kernel_rfl, ⟨by kernel_rfl, by kernel_rfl, by kernel_rfl⟩⟩,
    ⟨by kernel_rfl, ⟨by kernel_rfl, by kernel_rfl, by kernel_rfl⟩⟩,
    ⟨by kernel_rfl, ⟨by kernel_rfl, by kernel_rfl, by kernel_rfl⟩⟩,
    ⟨by kernel_rfl, ⟨by kernel_rfl, by kernel_rfl, by kernel_rfl⟩⟩,
    ⟨by kernel_rfl, ⟨by kernel_rfl, by kernel_rfl, by kernel_rfl⟩⟩,
    ⟨by kernel_rfl, ⟨by kernel_rfl, by kernel_rfl, by kernel_rfl⟩⟩,
    ⟨by kernel_rfl, ⟨by kernel_rfl, by kernel_rfl, by kernel_rfl⟩⟩,
    (by refine ⟨⟨by kernel_rfl, by kernel_rfl, by kernel_rfl⟩, ⟨by kernel_rfl, by kernel_rfl, by kernel_rfl⟩, fun x hx => ?_⟩; simp only [Mine.opAttrs, List.contains_iff_mem, List.mem_cons, List.not_mem_nil, or_false] at hx; rcases hx with rfl | rfl | rfl | rfl | rfl | rfl | rfl | rfl | rfl <;> exact ⟨by kernel_rfl, by kernel_rfl⟩),
    (by kernel_rfl),
    (by kernel_rfl),
    (by kernel_rfl),
    (by kernel_rfl),
    (by kernel_rfl),
    (by kernel_rfl),
    (by kernel_rfl),
    (by kernel_rfl),
    (by kernel_rfl),
    (by kernel_rfl),
    (by kernel_rfl),
    (by kernel_rfl),
    (by kernel_rfl),
    (by kernel_rfl),
    ⟨by kernel_rfl, by kernel_rfl, by kernel_rfl⟩,
    (by kernel_rfl),
    (by kernel_rfl),
    (by kernel_rfl),
    (by kernel_rfl),
    (by kernel_rfl),
    (by kernel_rfl),
    (by kernel_rfl),
    (by kernel_rfl),
    (by kernel_rfl),
    ⟨by kernel_rfl, ⟨by kernel_rfl, by kernel_rfl, by kernel_rfl⟩⟩,
    ⟨by kernel_rfl, ⟨by kernel_rfl, by kernel_rfl, by kernel_rfl⟩⟩,
    ⟨by kernel_rfl, ⟨by kernel_rfl, by kernel_rfl, by kernel_rfl⟩⟩,
    ⟨by kernel_rfl, ⟨by kernel_rfl, by kernel_rfl, by kernel_rfl⟩⟩,
    ⟨by kernel_rfl, ⟨by kernel_rfl, by kernel_rfl, by kernel_rfl⟩⟩,
    ⟨by kernel_rfl, ⟨by kernel_rfl, by kernel_rfl, by kernel_rfl⟩⟩,
    ⟨by kernel_rfl, ⟨by kernel_rfl, by kernel_rfl, by kernel_rfl⟩⟩,
    ⟨by kernel_rfl, ⟨by kernel_rfl, by kernel_rfl, by kernel_rfl⟩⟩,
    ⟨by kernel_rfl, ⟨by kernel_rfl, by kernel_rfl, by kernel_rfl⟩⟩,
    ⟨by kernel_rfl, ⟨by kernel_rfl, by kernel_rfl, by kernel_rfl⟩⟩,
    ⟨by kernel_rfl, ⟨by kernel_rfl, by kernel_rfl, by kernel_rfl⟩⟩,
    (by kernel_rfl),
    (by kernel_rfl),
    (by kernel_rfl),
    ⟨by kernel_rfl, ⟨by kernel_rfl, by kernel_rfl, by kernel_rfl⟩⟩⟩
  have hfa := (mg_of KX T.g F.law.ns).symm.trans hmg
  clear hmg Y TE TW B G hd hD D hcd
  wrow_args hpre hlay hrd hwl hlo
  all_goals cases hfa
  all_goals exact Mine.law_ends (Mine.kf_law KX T F) (F.law.fd.at_ KX) (by assumption) (by assumption) (by assumption) fun s' hk hos hgs => GoodW.toG ⟨.inl ⟨.bool true, .bool true, [], rfl, raisesW_false (by wrow_none_raised), .bool true, (by wrow_post), unshared_nil⟩, hk, hos, hgs.trans hg⟩
theorem PySem.Challenge.cw_rr0110_01_holds : PySem.Challenge.rw_rr0110_01.Holds :=
  Mine.head
