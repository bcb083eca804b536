import PyProof.Rows.All
import Wide.All
import OpenK.AllK
import Wide.FinOn
import HandS.ForMost
import HandS.ForExc
import HandS.Wide
import HandS.Lambda
import HandS.TupAny
import HandS.TupMul
import HandS.Star
import HandS.Zip
import HandS.Flow
import HandS.Style
import HandS.FStr
import HandS.EndBits
import KE.SortData
import PyProof.ReprRoads
import PyProof.StrLawsRepr
import PyProof.ReprText
import PyProof.Rows.StrDigits
import PySem.Challenge.RW_linesalike_k01_ratios
set_option Elab.async false
set_option linter.all false
set_option maxRecDepth 100000
namespace DL
open PySem PySem.Spec PyProof.Rows L2

/-! ### deep values over the abstract heap -/
abbrev D := PyData
/-- a list that never changes any more; a tuple -/
def OwnL (K : PySem.W.Frag) (a : Addr) (vs : List V) : Prop := ∃ (its : Array Value) (n : Nat), K.lookup a = some { cls := .type "list", data := .seq its n } ∧ its.size ≤ sizeLine ∧ Vals vs its.toList
def FzL (K : PySem.W.Frag) (H : Hp) (a : Addr) (vs : List V) : Prop := (∃ o, H a = some (.frz o (.lst vs))) ∨ OwnL K a vs
def RdL (K : PySem.W.Frag) (H : Hp) (a : Addr) (vs : List V) : Prop := Rd H a (.lst vs) ∨ OwnL K a vs
theorem RdL.sq {K : PySem.W.Frag} {H : Hp} {a : Addr} {vs : List V} (h : RdL K H a vs) : SqL K H a vs := h.imp id fun ⟨its, n, h1, h2, h3⟩ => ⟨_, its, n, h1, rfl, rfl, rfl, h2, h3⟩
theorem FzL.rdl {K : PySem.W.Frag} {H : Hp} {a : Addr} {vs : List V} (h : FzL K H a vs) : RdL K H a vs := h.imp .inr id
theorem FzL.sq {K : PySem.W.Frag} {H : Hp} {a : Addr} {vs : List V} (h : FzL K H a vs) : SqL K H a vs := h.rdl.sq
mutual
def Rep (K : PySem.W.Frag) (H : Hp) : PyData → V → Prop
  | .none, v => v = .non
  | .bool b, v => v = .bl b
  | .int i, v => v = .int i
  | .str x, v => v = .str x
  | .list ds, v => ∃ a vs, v = .ref a ∧ FzL K H a vs ∧ RepAll K H ds vs
  | .tuple ds, v => ∃ a vs, v = .ref a ∧ SqT K H a vs ∧ RepAll K H ds vs
  | .dict _, _ => False
def RepAll (K : PySem.W.Frag) (H : Hp) : List PyData → List V → Prop
  | [], vs => vs = []
  | d :: ds, vs => ∃ v r, vs = v :: r ∧ Rep K H d v ∧ RepAll K H ds r
end
/-- what never changes is kept -/
structure Le (H H' : Hp) : Prop where
  tup : ∀ a xs, H a = some (.tup xs) → H' a = some (.tup xs)
  frz : ∀ a o u, H a = some (.frz o u) → H' a = some (.frz o u)
theorem Le.refl (H : Hp) : Le H H := ⟨fun _ _ h => h, fun _ _ _ h => h⟩
theorem Le.trans {H H1 H2 : Hp} (a : Le H H1) (b : Le H1 H2) : Le H H2 := ⟨fun _ _ h => b.tup _ _ (a.tup _ _ h), fun _ _ _ h => b.frz _ _ _ (a.frz _ _ _ h)⟩
theorem Le.fz {K : PySem.W.Frag} {H H' : Hp} {a : Addr} {vs : List V} (l : Le H H') (h : FzL K H a vs) : FzL K H' a vs := h.imp (fun ⟨o, h⟩ => ⟨o, l.frz _ _ _ h⟩) id
theorem Le.tp {K : PySem.W.Frag} {H H' : Hp} {a : Addr} {vs : List V} (l : Le H H') (h : SqT K H a vs) : SqT K H' a vs := by
  rcases h with (h | ⟨o, h⟩) | h
  · exact .inl (.inl (l.tup _ _ h))
  · exact .inl (.inr ⟨o, l.frz _ _ _ h⟩)
  · exact .inr h
section
variable {K : PySem.W.Frag} {H H' : Hp}
mutual
theorem Rep.mono (l : Le H H') : ∀ (d : PyData) {v : V}, Rep K H d v → Rep K H' d v
  | .none, _, h => h
  | .bool _, _, h => h
  | .int _, _, h => h
  | .str _, _, h => h
  | .list ds, v, h => by
    simp only [Rep] at h ⊢
    obtain ⟨a, vs, e, f, r⟩ := h
    exact ⟨a, vs, e, l.fz f, RepAll.mono l ds r⟩
  | .tuple ds, v, h => by
    simp only [Rep] at h ⊢
    obtain ⟨a, vs, e, f, r⟩ := h
    exact ⟨a, vs, e, l.tp f, RepAll.mono l ds r⟩
  | .dict _, _, h => h
theorem RepAll.mono (l : Le H H') : ∀ (ds : List PyData) {vs : List V}, RepAll K H ds vs → RepAll K H' ds vs
  | [], _, h => h
  | d :: ds, vs, h => by
    simp only [RepAll] at h ⊢
    obtain ⟨v, r, e, h1, h2⟩ := h
    exact ⟨v, r, e, Rep.mono l d h1, RepAll.mono l ds h2⟩
end
mutual
theorem Rep.dp : ∀ (d : PyData) {v : V}, Rep K H d v → Dp K H v d
  | .none, _, h => by
    simp only [Rep] at h
    subst h; exact .non
  | .bool b, _, h => by
    simp only [Rep] at h
    subst h; exact .bl b
  | .int i, _, h => by
    simp only [Rep] at h
    subst h; exact .int i
  | .str x, _, h => by
    simp only [Rep] at h
    subst h; exact .str x
  | .list ds, v, h => by
    simp only [Rep] at h
    obtain ⟨a, vs, e, f, r⟩ := h
    subst e
    exact .lst f.sq (RepAll.dp ds r)
  | .tuple ds, v, h => by
    simp only [Rep] at h
    obtain ⟨a, vs, e, f, r⟩ := h
    subst e
    exact .tup f (RepAll.dp ds r)
  | .dict _, _, h => by simp only [Rep] at h
theorem RepAll.dp : ∀ (ds : List PyData) {vs : List V}, RepAll K H ds vs → DpAll K H vs ds
  | [], _, h => by
    simp only [RepAll] at h
    subst h; exact .nil
  | d :: ds, vs, h => by
    simp only [RepAll] at h
    obtain ⟨v, r, e, h1, h2⟩ := h
    subst e
    exact .cons (Rep.dp d h1) (RepAll.dp ds h2)
end
theorem RepAll.len : ∀ {ds : List PyData} {vs : List V}, RepAll K H ds vs → vs.length = ds.length
  | [], _, h => by
    simp only [RepAll] at h
    subst h; rfl
  | d :: ds, vs, h => by
    simp only [RepAll] at h
    obtain ⟨v, r, e, h1, h2⟩ := h
    subst e
    simp [RepAll.len h2]
theorem RepAll.get : ∀ {ds : List PyData} {vs : List V} {i : Nat} {d : PyData}, RepAll K H ds vs → ds[i]? = some d → ∃ v, vs[i]? = some v ∧ Rep K H d v
  | [], _, _, _, _, e => by simp at e
  | d :: ds, vs, 0, d', h, e => by
    simp only [RepAll] at h
    obtain ⟨v, r, e', h1, h2⟩ := h
    subst e'
    simp at e; subst e
    exact ⟨v, rfl, h1⟩
  | d :: ds, vs, i + 1, d', h, e => by
    simp only [RepAll] at h
    obtain ⟨v, r, e', h1, h2⟩ := h
    subst e'
    obtain ⟨u, hu, hr⟩ := RepAll.get (i := i) h2 (by simpa using e)
    exact ⟨u, by simpa using hu, hr⟩
theorem RepAll.append : ∀ {ds es : List PyData} {vs us : List V}, RepAll K H ds vs → RepAll K H es us → RepAll K H (ds ++ es) (vs ++ us)
  | [], _, _, _, h, h' => by
    simp only [RepAll] at h
    subst h; exact h'
  | d :: ds, _, vs, _, h, h' => by
    simp only [RepAll] at h
    obtain ⟨v, r, e, h1, h2⟩ := h
    subst e
    exact ⟨v, _, rfl, h1, RepAll.append h2 h'⟩
theorem RepAll.take : ∀ {ds : List PyData} {vs : List V} (n : Nat), RepAll K H ds vs → RepAll K H (ds.take n) (vs.take n)
  | _, _, 0, _ => by simp [RepAll]
  | [], _, n + 1, h => by
    simp only [RepAll] at h
    subst h; simp [RepAll]
  | d :: ds, vs, n + 1, h => by
    simp only [RepAll] at h
    obtain ⟨v, r, e, h1, h2⟩ := h
    subst e
    exact ⟨v, _, rfl, h1, RepAll.take n h2⟩
theorem RepAll.drop : ∀ {ds : List PyData} {vs : List V} (n : Nat), RepAll K H ds vs → RepAll K H (ds.drop n) (vs.drop n)
  | _, _, 0, h => h
  | [], _, n + 1, h => by
    simp only [RepAll] at h
    subst h; simp [RepAll]
  | d :: ds, vs, n + 1, h => by
    simp only [RepAll] at h
    obtain ⟨v, r, e, h1, h2⟩ := h
    subst e
    exact RepAll.drop n h2
theorem RepAll.reverse : ∀ {ds : List PyData} {vs : List V}, RepAll K H ds vs → RepAll K H ds.reverse vs.reverse
  | [], _, h => by
    simp only [RepAll] at h
    subst h; simp [RepAll]
  | d :: ds, vs, h => by
    simp only [RepAll] at h
    obtain ⟨v, r, e, h1, h2⟩ := h
    subst e
    rw [List.reverse_cons, List.reverse_cons]
    exact RepAll.append (RepAll.reverse h2) ⟨v, [], rfl, h1, rfl⟩
end

/-! ### owned values: a value, a function of the table, a list that its holder alone may change -/
inductive O where
  | val (d : PyData)
  | fn (j : Nat)
  | lst (xs : List O)
abbrev DEnv := List (Option O)
mutual
/-- the value that it reads as -/
def O.fz : O → Option PyData
  | .val d => some d
  | .fn _ => none
  | .lst xs => (O.fzAll xs).map PyData.list
def O.fzAll : List O → Option (List PyData)
  | [] => some []
  | x :: xs => (O.fz x).bind fun d => (O.fzAll xs).map fun ds => d :: ds
end
variable (fa : List Addr) (K : PySem.W.Frag) (H : Hp) in
mutual
def ORep : O → V → List Addr → Prop
  | .val d, v, A => A = [] ∧ Rep K H d v
  | .fn j, v, A => A = [] ∧ ∃ a, fa[j]? = some a ∧ v = .ref a
  | .lst xs, v, A => ∃ a vs As, A = a :: As ∧ v = .ref a ∧ H a = some (.lst vs) ∧ ORepAll xs vs As
def ORepAll : List O → List V → List Addr → Prop
  | [], vs, A => vs = [] ∧ A = []
  | x :: xs, vs, A => ∃ v r A1 A2, vs = v :: r ∧ A = A1 ++ A2 ∧ ORep x v A1 ∧ ORepAll xs r A2
end
/-- the slots -/
def ES (fa : List Addr) (K : PySem.W.Frag) (H : Hp) : DEnv → L2.St → List Addr → Prop
  | [], σ, A => σ = [] ∧ A = []
  | none :: es, σ, A => ∃ y r, σ = y :: r ∧ ES fa K H es r A
  | some o :: es, σ, A => ∃ v r A1 A2, σ = some v :: r ∧ A = A1 ++ A2 ∧ ORep fa K H o v A1 ∧ ES fa K H es r A2
section
variable {fa : List Addr} {K : PySem.W.Frag} {H H' : Hp}
mutual
theorem ORep.mono (l : Le H H') : ∀ (o : O) {v : V} {A : List Addr}, ORep fa K H o v A → (∀ a ∈ A, ∀ xs, H a = some (.lst xs) → H' a = some (.lst xs)) → ORep fa K H' o v A
  | .val d, v, A, h, k => by
    simp only [ORep] at h ⊢
    exact ⟨h.1, Rep.mono l d h.2⟩
  | .fn j, v, A, h, k => by
    simp only [ORep] at h ⊢
    exact h
  | .lst xs, v, A, h, k => by
    simp only [ORep] at h ⊢
    obtain ⟨a, vs, As, e, e2, e3, r⟩ := h
    subst e
    exact ⟨a, vs, As, rfl, e2, k a (by simp) _ e3, ORepAll.mono l xs r fun b hb => k b (by simp [hb])⟩
theorem ORepAll.mono (l : Le H H') : ∀ (xs : List O) {vs : List V} {A : List Addr}, ORepAll fa K H xs vs A → (∀ a ∈ A, ∀ xs, H a = some (.lst xs) → H' a = some (.lst xs)) → ORepAll fa K H' xs vs A
  | [], _, _, h, _ => by
    simp only [ORepAll] at h ⊢
    exact h
  | x :: xs, vs, A, h, k => by
    simp only [ORepAll] at h ⊢
    obtain ⟨v, r, A1, A2, e, e2, h1, h2⟩ := h
    subst e2
    exact ⟨v, r, A1, A2, e, rfl, ORep.mono l x h1 fun b hb => k b (by simp [hb]), ORepAll.mono l xs h2 fun b hb => k b (by simp [hb])⟩
end
mutual
theorem ORep.lsts : ∀ (o : O) {v : V} {A : List Addr}, ORep fa K H o v A → ∀ a ∈ A, ∃ xs, H a = some (.lst xs)
  | .val d, v, A, h => by
    simp only [ORep] at h
    rw [h.1]; simp
  | .fn j, v, A, h => by
    simp only [ORep] at h
    rw [h.1]; simp
  | .lst xs, v, A, h => by
    simp only [ORep] at h
    obtain ⟨a, vs, As, e, e2, e3, r⟩ := h
    subst e
    intro b hb
    rcases List.mem_cons.mp hb with rfl | hb
    · exact ⟨_, e3⟩
    · exact ORepAll.lsts xs r b hb
theorem ORepAll.lsts : ∀ (xs : List O) {vs : List V} {A : List Addr}, ORepAll fa K H xs vs A → ∀ a ∈ A, ∃ xs, H a = some (.lst xs)
  | [], _, _, h => by
    simp only [ORepAll] at h
    rw [h.2]; simp
  | x :: xs, vs, A, h => by
    simp only [ORepAll] at h
    obtain ⟨v, r, A1, A2, e, e2, h1, h2⟩ := h
    subst e2
    intro b hb
    rcases List.mem_append.mp hb with hb | hb
    · exact ORep.lsts x h1 b hb
    · exact ORepAll.lsts xs h2 b hb
end
mutual
theorem ORep.dp : ∀ (o : O) {v : V} {A : List Addr} {d : PyData}, ORep fa K H o v A → o.fz = some d → Dp K H v d
  | .val d', v, A, d, h, e => by
    simp only [ORep] at h
    simp only [O.fz, Option.some.injEq] at e
    subst e
    exact Rep.dp _ h.2
  | .fn j, v, A, d, h, e => by simp [O.fz] at e
  | .lst xs, v, A, d, h, e => by
    simp only [ORep] at h
    obtain ⟨a, vs, As, e1, e2, e3, r⟩ := h
    simp only [O.fz, Option.map_eq_some_iff] at e
    obtain ⟨ds, e4, rfl⟩ := e
    subst e2
    exact .lst (.inl (.inl e3)) (ORepAll.dp xs r e4)
theorem ORepAll.dp : ∀ (xs : List O) {vs : List V} {A : List Addr} {ds : List PyData}, ORepAll fa K H xs vs A → O.fzAll xs = some ds → DpAll K H vs ds
  | [], vs, A, ds, h, e => by
    simp only [ORepAll] at h
    simp only [O.fzAll, Option.some.injEq] at e
    subst e
    rw [h.1]
    exact .nil
  | x :: xs, vs, A, ds, h, e => by
    simp only [ORepAll] at h
    obtain ⟨v, r, A1, A2, e1, e2, h1, h2⟩ := h
    simp only [O.fzAll, Option.bind_eq_some_iff, Option.map_eq_some_iff] at e
    obtain ⟨d, e3, ds', e4, rfl⟩ := e
    subst e1
    exact .cons (ORep.dp x h1 e3) (ORepAll.dp xs h2 e4)
end
theorem ES.mono (l : Le H H') : ∀ {env : DEnv} {σ : L2.St} {A : List Addr}, ES fa K H env σ A → (∀ a ∈ A, ∀ xs, H a = some (.lst xs) → H' a = some (.lst xs)) → ES fa K H' env σ A
  | [], _, _, h, _ => by
    simp only [ES] at h ⊢
    exact h
  | none :: es, σ, A, h, k => by
    simp only [ES] at h ⊢
    obtain ⟨y, r, e, h1⟩ := h
    exact ⟨y, r, e, ES.mono l h1 k⟩
  | some o :: es, σ, A, h, k => by
    simp only [ES] at h ⊢
    obtain ⟨v, r, A1, A2, e, e2, h1, h2⟩ := h
    subst e2
    exact ⟨v, r, A1, A2, e, rfl, ORep.mono l o h1 fun b hb => k b (by simp [hb]), ES.mono l h2 fun b hb => k b (by simp [hb])⟩
theorem ES.len : ∀ {env : DEnv} {σ : L2.St} {A : List Addr}, ES fa K H env σ A → σ.length = env.length
  | [], _, _, h => by
    simp only [ES] at h
    rw [h.1]; rfl
  | none :: es, σ, A, h => by
    simp only [ES] at h
    obtain ⟨y, r, e, h1⟩ := h
    subst e
    simp [ES.len h1]
  | some o :: es, σ, A, h => by
    simp only [ES] at h
    obtain ⟨v, r, A1, A2, e, e2, h1, h2⟩ := h
    subst e
    simp [ES.len h2]
theorem ES.lsts : ∀ {env : DEnv} {σ : L2.St} {A : List Addr}, ES fa K H env σ A → ∀ a ∈ A, ∃ xs, H a = some (.lst xs)
  | [], _, _, h => by
    simp only [ES] at h
    rw [h.2]; simp
  | none :: es, σ, A, h => by
    simp only [ES] at h
    obtain ⟨y, r, e, h1⟩ := h
    exact ES.lsts h1
  | some o :: es, σ, A, h => by
    simp only [ES] at h
    obtain ⟨v, r, A1, A2, e, e2, h1, h2⟩ := h
    subst e2
    intro b hb
    rcases List.mem_append.mp hb with hb | hb
    · exact ORep.lsts o h1 b hb
    · exact ES.lsts h2 b hb
/-- one slot: what stands there, and how the rest stands when it is put anew (none: forgotten) -/
theorem ES.slot : ∀ {env : DEnv} {σ : L2.St} {A : List Addr} {i : Nat} {oo : Option O}, ES fa K H env σ A → env[i]? = some oo →
    ∃ A1 B A2 y, A = A1 ++ (B ++ A2) ∧ σ[i]? = some y ∧ (∀ o, oo = some o → ∃ v, y = some v ∧ ORep fa K H o v B) ∧ (oo = none → B = []) ∧
      (∀ (H' : Hp) (oo' : Option O) (y' : Option V) (B' : List Addr), Le H H' → (∀ a ∈ A1 ++ A2, ∀ xs, H a = some (.lst xs) → H' a = some (.lst xs)) → (∀ o, oo' = some o → ∃ v, y' = some v ∧ ORep fa K H' o v B') → (oo' = none → B' = []) →
        ES fa K H' (env.set i oo') (σ.set i y') (A1 ++ (B' ++ A2)))
  | [], _, _, _, _, h, e => by simp at e
  | none :: es, σ, A, 0, oo, h, e => by
    simp only [ES] at h
    obtain ⟨y, r, e1, h1⟩ := h
    subst e1
    simp at e; subst e
    refine ⟨[], [], A, y, rfl, rfl, fun o z => (by cases z), fun _ => rfl, fun H' oo' y' B' l k h2 h3 => ?_⟩
    have hr : ES fa K H' es r A := ES.mono l h1 fun a ha => k a (by simpa using ha)
    cases oo' with
    | none =>
      rw [h3 rfl]
      exact ⟨y', r, rfl, hr⟩
    | some o =>
      obtain ⟨v, rfl, ho⟩ := h2 o rfl
      exact ⟨v, r, B', A, rfl, rfl, ho, hr⟩
  | some o :: es, σ, A, 0, oo, h, e => by
    simp only [ES] at h
    obtain ⟨v, r, A1, A2, e1, e2, h1, h2⟩ := h
    subst e1 e2
    simp at e; subst e
    refine ⟨[], A1, A2, some v, rfl, rfl, fun o' z => ⟨v, rfl, (by cases z; exact h1)⟩, fun z => (by cases z), fun H' oo' y' B' l k h3 h4 => ?_⟩
    have hr : ES fa K H' es r A2 := ES.mono l h2 fun a ha => k a (by simpa using ha)
    cases oo' with
    | none =>
      rw [h4 rfl]
      exact ⟨y', r, rfl, hr⟩
    | some o =>
      obtain ⟨v, rfl, ho⟩ := h3 o rfl
      exact ⟨v, r, B', A2, rfl, rfl, ho, hr⟩
  | none :: es, σ, A, i + 1, oo, h, e => by
    simp only [ES] at h
    obtain ⟨y, r, e1, h1⟩ := h
    subst e1
    obtain ⟨A1, B, A2, y0, a1, a2, a3, a4, a5⟩ := ES.slot (i := i) h1 (by simpa using e)
    exact ⟨A1, B, A2, y0, a1, by simpa using a2, a3, a4, fun H' oo' y' B' l k h2 h3 => ⟨y, r.set i y', rfl, a5 H' oo' y' B' l k h2 h3⟩⟩
  | some o :: es, σ, A, i + 1, oo, h, e => by
    simp only [ES] at h
    obtain ⟨v, r, C1, C2, e1, e2, h1, h2⟩ := h
    subst e1 e2
    obtain ⟨A1, B, A2, y0, a1, a2, a3, a4, a5⟩ := ES.slot (i := i) h2 (by simpa using e)
    subst a1
    refine ⟨C1 ++ A1, B, A2, y0, by simp, by simpa using a2, a3, a4, fun H' oo' y' B' l k h3 h4 => ?_⟩
    refine ⟨v, r.set i y', C1, A1 ++ (B' ++ A2), rfl, by simp, ORep.mono l o h1 fun a ha => k a (by simp [ha]), a5 H' oo' y' B' l (fun a ha => k a ?_) h3 h4⟩
    rcases List.mem_append.mp ha with ha | ha <;> simp [ha]
end
end DL
namespace DL
open PySem PySem.Spec PyProof.Rows L2

/-! ### the evaluator's monad -/
structure Exc where
  cls : Nat
inductive R (α : Type) where
  | ok (a : α) (e : DEnv)
  | exc (x : Exc) (e : DEnv)
  | stuck
abbrev M (α : Type) := DEnv → R α
@[inline] def M.pure {α : Type} (a : α) : M α := fun e => .ok a e
@[inline] def M.bind {α β : Type} (m : M α) (k : α → M β) : M β := fun e => match m e with
  | .ok a e' => k a e'
  | .exc x e' => .exc x e'
  | .stuck => .stuck
@[inline] def M.of {α : Type} (o : Option α) : M α := fun e => match o with
  | some a => .ok a e
  | none => .stuck
instance : Monad M where
  pure := M.pure
  bind := M.bind
theorem M.bind_def {α β : Type} (m : M α) (k : α → M β) (e : DEnv) : (m >>= k) e = match m e with
  | .ok a e' => k a e'
  | .exc x e' => .exc x e'
  | .stuck => .stuck := rfl
theorem M.pure_def {α : Type} (a : α) (e : DEnv) : (pure a : M α) e = .ok a e := rfl

/-! ### what an operand is until it is used: a value, or the name of a slot -/
inductive Pn where
  | o (x : O)
  | s (i : Nat)
/-- a slot's content, frozen for good -/
def slotV (i : Nat) : M O := fun e => match e[i]? with
  | some (some o) => match o.fz with
    | some d => .ok (.val d) (e.set i (some (.val d)))
    | none => match o with
      | .fn j => .ok (.fn j) e
      | _ => .stuck
  | _ => .stuck
/-- a slot's content, handed over -/
def slotM (i : Nat) : M O := fun e => match e[i]? with
  | some (some o) => .ok o (e.set i none)
  | _ => .stuck
/-- the items of a list, none of them a list that may change -/
def valsOf : List O → Option (List PyData)
  | [] => some []
  | .val d :: r => (valsOf r).map fun ds => d :: ds
  | _ :: _ => none
def O.rdv : O → Option PyData
  | .val d => some d
  | .fn _ => none
  | .lst xs => (valsOf xs).map PyData.list
def rd : Pn → M PyData
  | .o x => M.of x.rdv
  | .s i => fun e => match e[i]? with
    | some (some o) => M.of o.rdv e
    | _ => .stuck

/-! ### operators on values -/
def okLen (n : Nat) : Bool := decide (n ≤ sizeLine)
def binD : Operator → PyData → PyData → Option O
  | .Add, .int i, .int j => some (.val (.int (i + j)))
  | .Sub, .int i, .int j => some (.val (.int (i - j)))
  | .Mult, .int i, .int j => if i.natAbs.log2 + j.natAbs.log2 < 1000000 then some (.val (.int (i * j))) else none
  | .FloorDiv, .int i, .int j => if j ≠ 0 ∧ j.natAbs.log2 < 9000 then some (.val (.int (i.fdiv j))) else none
  | .Mod, .int i, .int j => if j ≠ 0 then some (.val (.int (i.fmod j))) else none
  | .Pow, .int i, .int j => if 0 ≤ j ∧ j ≤ 1000000 ∧ i.natAbs < 2 ^ 64 then some (.val (.int (i ^ j.toNat))) else none
  | .LShift, .int i, .int j => if 0 ≤ j ∧ j ≤ 1000000 ∧ i.natAbs < 2 ^ 64 then some (.val (.int (i * 2 ^ j.toNat))) else none
  | .RShift, .int i, .int j => if 0 ≤ j then some (.val (.int (i / 2 ^ j.toNat))) else none
  | .BitAnd, .int i, .int j => some (.val (.int (Builtin.bitAnd i j)))
  | .BitOr, .int i, .int j => some (.val (.int (Builtin.bitOr i j)))
  | .BitXor, .int i, .int j => some (.val (.int (Builtin.bitXor i j)))
  | .Add, .str x, .str y => if x.length + y.length ≤ sizeLine then some (.val (.str (x ++ y))) else none
  | .Add, .tuple xs, .tuple ys => if xs.length + ys.length ≤ sizeLine then some (.val (.tuple (xs ++ ys))) else none
  | .Add, .list xs, .list ys => if xs.length + ys.length ≤ sizeLine then some (.lst ((xs ++ ys).map O.val)) else none
  | .Mult, .list xs, .int k => if -(2 ^ 63) ≤ k ∧ k < 2 ^ 63 ∧ xs.length * k.toNat ≤ sizeLine then some (.lst ((List.replicate k.toNat xs).flatten.map O.val)) else none
  | .Mult, .tuple xs, .int k => if xs ≠ [] ∧ 2 ≤ k ∧ k ≤ 1000 ∧ xs.length ≤ 1000 then some (.val (.tuple (List.replicate k.toNat xs).flatten)) else none
  | _, _, _ => none
def isN : PyData → Bool
  | .none => true
  | _ => false
def cmpD : CmpOp → PyData → PyData → Option Bool
  | .Eq, .int i, .int j => some (decide (i = j))
  | .Eq, .str i, .str j => some (decide (i = j))
  | .NotEq, .int i, .int j => some (!decide (i = j))
  | .NotEq, .str i, .str j => some (!decide (i = j))
  | .Eq, x, y => if SeqAt.shaped x = true ∧ SeqAt.shaped y = true then some (PyData.eqv x y) else none
  | .NotEq, x, y => if SeqAt.shaped x = true ∧ SeqAt.shaped y = true then some (!PyData.eqv x y) else none
  | .Lt, .int i, .int j => some (decide (i < j))
  | .LtE, .int i, .int j => some (decide (i ≤ j))
  | .Gt, .int i, .int j => some (decide (j < i))
  | .GtE, .int i, .int j => some (decide (j ≤ i))
  | .Is, x, .none => some (isN x)
  | .IsNot, x, .none => some (!isN x)
  | _, _, _ => none
/-- truth -/
def truD : PyData → Option Bool
  | .none => some false
  | .bool b => some b
  | .int i => some (i != 0)
  | .list xs => some (!xs.isEmpty)
  | .tuple xs => some (!xs.isEmpty)
  | _ => none
def ixD (xs : List PyData) (i : Int) : Option PyData := L2.atI xs i
def getD' : PyData → PyData → Option PyData
  | .list xs, .int i => L2.atI xs i
  | .tuple xs, .int i => L2.atI xs i
  | _, _ => none
def cutL (xs : List PyData) (lo hi : Option Int) : List PyData := (xs.drop (HT.sIx xs.length 0 lo)).take (HT.sIx xs.length xs.length hi - HT.sIx xs.length 0 lo)
def cutD : PyData → Option Int → Option Int → Option O
  | .list xs, lo, hi => some (.lst ((cutL xs lo hi).map O.val))
  | .tuple xs, lo, hi => some (.val (.tuple (cutL xs lo hi)))
  | _, _, _ => none
def asInt : PyData → Option Int
  | .int i => some i
  | _ => none
def asInts : List PyData → Option (List Int)
  | [] => some []
  | .int i :: r => (asInts r).map fun l => i :: l
  | _ :: _ => none
def asBools : List PyData → Option (List Bool)
  | [] => some []
  | .bool b :: r => (asBools r).map fun l => b :: l
  | _ :: _ => none
/-- the built-in functions of one or two values -/
inductive Blt where
  | len | abs | int | sum | all | any | tuple | list | str | max2 | min2 | repr
  deriving DecidableEq
def Blt.name : Blt → Str
  | .len => "len" | .abs => "abs" | .int => "int" | .sum => "sum" | .all => "all" | .any => "any" | .tuple => "tuple" | .list => "list" | .str => "str" | .max2 => "max" | .min2 => "min" | .repr => "repr"
def bltD : Blt → List PyData → Option O
  | .len, [.list xs] => if xs.length ≤ sizeLine then some (.val (.int xs.length)) else none
  | .len, [.tuple xs] => if xs.length ≤ sizeLine then some (.val (.int xs.length)) else none
  | .len, [.str x] => if x.length ≤ sizeLine then some (.val (.int x.length)) else none
  | .abs, [.int i] => some (.val (.int (if i < 0 then -i else i)))
  | .int, [.int i] => some (.val (.int i))
  | .int, [.bool b] => some (.val (.int (if b then 1 else 0)))
  | .sum, [.list xs] => (asInts xs).map fun ns => .val (.int ns.sum)
  | .all, [.list xs] => (asBools xs).map fun bs => .val (.bool (bs.all id))
  | .any, [.list xs] => (asBools xs).map fun bs => .val (.bool (bs.any id))
  | .tuple, [.list xs] => some (.val (.tuple xs))
  | .tuple, [.tuple xs] => some (.val (.tuple xs))
  | .list, [.list xs] => some (.lst (xs.map O.val))
  | .list, [.tuple xs] => some (.lst (xs.map O.val))
  | .str, [.int i] => if i.natAbs.log2 < 1920 then some (.val (.str (toString i))) else none
  | .max2, [.int i, .int j] => some (.val (.int (if j > i then j else i)))
  | .repr, [.list xs] => if PyData.showable (.list xs) = true ∧ PyData.hasDict (.list xs) = false ∧ PyData.depth (.list xs) ≤ 60 ∧ (PyData.shown (.list xs)).length ≤ sizeLine then some (.val (.str (PyData.shown (.list xs)))) else none
  | .min2, [.int i, .int j] => some (.val (.int (if j < i then j else i)))
  | _, _ => none

/-! ### the syntax -/
inductive Tg where
  | name (i : Nat)
  | tup (ts : List Tg)
mutual
inductive E where
  | int (i : Int) | str (x : Str) | bl (b : Bool) | non
  | var (i : Nat) | mv (i : Nat)
  | glob (x : Str) (d : PyData)
  | tup (es : List E) | lst (es : List E)
  | op (o : Operator) (a b : E) | neg (a : E)
  | no (a : E) | and (a b : E) | or (a b : E) | ite (c : T) (a b : E)
  | cmp (c : CmpOp) (a b : E) | cmp2 (c d : CmpOp) (a b e : E)
  | idx (a i : E) | cut (a : E) (lo hi : Option E)
  | call (j : Nat) (ins : List Nat) (es : List E)
  | blt (f : Blt) (es : List E)
  | pop (i : Nat) | popAt (i : Nat) (e : E)
  | comp (elt : E) (own : List Nat) (t : Tg) (it : It) (ifs : Option T)
  | fst (ps : List (Option E × Str))
inductive T where
  | v (e : E)
  | no (a : T) | and (a b : T) | or (a b : T)
inductive It where
  | rng1 (a : E)
  | rng2 (a b : E)
  | it (e : E)
  | enum (es : List E)
  | zip (es : List E)
end

/-! ### functions -/
inductive FR where
  | ok (o : O) (outs : List O)
  | exc (x : Exc)
  | stuck
structure FnSem where
  run : List O → FR
def setAll : DEnv → List Nat → List (Option O) → DEnv
  | e, i :: is, o :: os => setAll (e.set i o) is os
  | e, _, _ => e
def getAll (e : DEnv) : List Nat → Option (List O)
  | [] => some []
  | i :: is => match e[i]? with
    | some (some o) => (getAll e is).map fun os => o :: os
    | _ => none
def callM (Φ : List FnSem) (j : Nat) (ins : List Nat) (os : List O) : M O := fun e => match Φ[j]?, getAll e ins with
  | some φ, some cs => match φ.run (cs ++ os) with
    | .ok o outs => if outs.length = ins.length then .ok o (setAll e ins (outs.map some)) else .stuck
    | .exc x => .exc x (setAll e ins (ins.map fun _ => none))
    | .stuck => .stuck
  | _, _ => .stuck

def chkSlots (ins : List Nat) : M Unit := fun e => match getAll e ins with
  | some _ => .ok () e
  | none => .stuck

/-- a list that may change stands in the slot -/
def chkLst (i : Nat) : M Unit := fun e => match e[i]? with
  | some (some (.lst _)) => .ok () e
  | _ => .stuck

/-! ### stores, walks -/
mutual
def asgD : Tg → PyData → M Unit
  | .name i, d => fun e => if i < e.length then .ok () (e.set i (some (.val d))) else .stuck
  | .tup ts, .tuple ds => asgAll ts ds
  | .tup _, _ => fun _ => .stuck
def asgAll : List Tg → List PyData → M Unit
  | [], [] => pure ()
  | t :: ts, d :: ds => do
    asgD t d
    asgAll ts ds
  | _, _ => fun _ => .stuck
end
def range1 (lo hi : Int) : List PyData := (List.range (hi - lo).toNat).map fun (k : Nat) => PyData.int (lo + k)
def bnd62 (i : Int) : Bool := decide (-(2 ^ 62) ≤ i ∧ i < 2 ^ 62)
def rngD1 : PyData → Option (List PyData)
  | .int j => if -(2 ^ 62) ≤ j ∧ j < 2 ^ 62 then some (range1 0 j) else none
  | _ => none
def rngD2 : PyData → PyData → Option (List PyData)
  | .int i, .int j => if -(2 ^ 62) ≤ i ∧ i < 2 ^ 62 ∧ -(2 ^ 62) ≤ j ∧ j < 2 ^ 62 then some (range1 i j) else none
  | _, _ => none
def itD : PyData → Option (List PyData)
  | .list xs => some xs
  | .tuple xs => some xs
  | _ => none
def enumD (xs : List PyData) : List PyData := xs.zipIdx.map fun p => .tuple [.int p.2, p.1]
def zipD (xs ys : List PyData) : List PyData := (xs.zip ys).map fun p => .tuple [p.1, p.2]
def enumL : List PyData → Option (List PyData)
  | [.list xs] => some (enumD xs)
  | _ => none
def zipL : List PyData → Option (List PyData)
  | [.list xs, .list ys] => some (zipD xs ys)
  | [.tuple xs, .tuple ys] => some (zipD xs ys)
  | _ => none
/-- slots forgotten, and as they were -/
def wipeE (e : DEnv) : List Nat → DEnv
  | [] => e
  | v :: vs => (wipeE e vs).set v none
def restE (e e0 : DEnv) : List Nat → DEnv
  | [] => e
  | v :: vs => restE (e.set v ((e0[v]?).getD none)) e0 vs
def isVal : Option (Option O) → Bool
  | some (some (.val _)) => true
  | some (some (.fn _)) => true
  | some none => true
  | _ => false
def wipeM (own : List Nat) : M Unit := fun e => if own.all (fun i => isVal e[i]?) then .ok () (wipeE e own) else .stuck
/-- the turns of a comprehension: t takes the item, the tests, the element -/
def compD (st : PyData → M Unit) (test : M Bool) (elt : M O) (own : List Nat) : List PyData → M (List O)
  | [] => pure []
  | d :: ds => do
    st d
    let b ← test
    if b then do
      let o ← elt
      wipeM own
      let os ← compD st test elt own ds
      pure (o :: os)
    else do
      wipeM own
      compD st test elt own ds
/-- a block with names of its own -/
def blockM {α : Type} (own : List Nat) (m : M α) : M α := fun e =>
  if own.all (fun i => isVal e[i]?) then
    match m (wipeE e own) with
    | .ok a e' => .ok a (restE e' e own)
    | .exc _ _ => .stuck
    | .stuck => .stuck
  else .stuck
def slotP (i : Nat) : M Pn := fun env => match env[i]? with
  | some (some _) => .ok (.s i) env
  | _ => .stuck
def pnOf (e : E) (m : M O) : M Pn := match e with
  | .var i => slotP i
  | _ => m >>= fun o => pure (.o o)
def toD (o : O) : M PyData := M.of o.fz
def fzAllM (os : List O) : M (List PyData) := M.of (O.fzAll os)

def rdAll : List Pn → M (List PyData)
  | [] => pure []
  | p :: ps => do
    let d ← rd p
    let ds ← rdAll ps
    pure (d :: ds)

variable (Φ : List FnSem)
mutual
def ev : E → M O
  | .int i => pure (.val (.int i))
  | .str x => pure (.val (.str x))
  | .bl b => pure (.val (.bool b))
  | .non => pure (.val .none)
  | .var i => slotV i
  | .mv i => slotM i
  | .glob _ d => pure (.val d)
  | .tup es => do
    let os ← evs es
    let ds ← fzAllM os
    M.of (if ds.length ≤ sizeLine then some (.val (.tuple ds)) else none)
  | .lst es => do
    let os ← evs es
    M.of (if os.length ≤ sizeLine then some (.lst os) else none)
  | .op o a b => do
    let p ← pnOf a (ev a)
    let q ← pnOf b (ev b)
    let x ← rd p
    let y ← rd q
    M.of (binD o x y)
  | .neg a => do
    let p ← pnOf a (ev a)
    let x ← rd p
    M.of (match x with | .int i => some (.val (.int (-i))) | _ => none)
  | .no a => do
    let p ← pnOf a (ev a)
    let x ← rd p
    let b ← M.of (truD x)
    pure (.val (.bool (!b)))
  | .and a b => do
    let o ← ev a
    match o with
    | .val (.bool true) => ev b
    | .val (.bool false) => pure (.val (.bool false))
    | _ => fun _ => .stuck
  | .or a b => do
    let o ← ev a
    match o with
    | .val (.bool false) => ev b
    | .val (.bool true) => pure (.val (.bool true))
    | _ => fun _ => .stuck
  | .ite c a b => do
    let t ← evT c
    if t then ev a else ev b
  | .cmp c a b => do
    let p ← pnOf a (ev a)
    let q ← pnOf b (ev b)
    let x ← rd p
    let y ← rd q
    let r ← M.of (cmpD c x y)
    pure (.val (.bool r))
  | .cmp2 c d a b e => do
    let p ← pnOf a (ev a)
    let q ← pnOf b (ev b)
    let x ← rd p
    let y ← rd q
    let r ← M.of (cmpD c x y)
    if r then do
      let u ← pnOf e (ev e)
      let y ← rd q
      let z ← rd u
      let r ← M.of (cmpD d y z)
      pure (.val (.bool r))
    else pure (.val (.bool false))
  | .idx a i => do
    let p ← pnOf a (ev a)
    let q ← pnOf i (ev i)
    let x ← rd p
    let y ← rd q
    let d ← M.of (getD' x y)
    pure (.val d)
  | .cut a lo hi => do
    let p ← pnOf a (ev a)
    let l ← evO lo
    let h ← evO hi
    let x ← rd p
    M.of (cutD x l h)
  | .call j ins es => do
    chkSlots ins
    let os ← evs es
    callM Φ j ins os
  | .blt f es => do
    let ps ← evP es
    let ds ← rdAll ps
    M.of (bltD f ds)
  | .pop i => fun e => match e[i]? with
    | some (some (.lst xs)) => match xs.getLast? with
      | some o => .ok o (e.set i (some (.lst xs.dropLast)))
      | none => .stuck
    | _ => .stuck
  | .popAt i a => do
    chkLst i
    let p ← pnOf a (ev a)
    let x ← rd p
    fun e => match e[i]?, x with
      | some (some (.lst xs)), .int k => if -(2 ^ 63) ≤ k ∧ k < 2 ^ 63 then
          match seqIndex? k xs.length with
          | some j => match xs[j]? with
            | some o => .ok o (e.set i (some (.lst (xs.eraseIdx j))))
            | none => .stuck
          | none => .stuck
        else .stuck
      | _, _ => .stuck
  | .comp elt own t it ifs => do
    let ds ← evI it
    let os ← blockM own (compD (asgD t) (evTs ifs) (ev elt) own ds)
    M.of (if os.length ≤ sizeLine then some (.lst os) else none)
  | .fst ps => do
    let x ← evF ps Str.empty
    pure (.val (.str x))
termination_by structural x => x
def evs : List E → M (List O)
  | [] => pure []
  | e :: es => do
    let o ← ev e
    let os ← evs es
    pure (o :: os)
termination_by structural x => x
def evP : List E → M (List Pn)
  | [] => pure []
  | e :: es => do
    let p ← pnOf e (ev e)
    let ps ← evP es
    pure (p :: ps)
termination_by structural x => x
def evO : Option E → M (Option Int)
  | none => pure none
  | some e => do
    let p ← pnOf e (ev e)
    let x ← rd p
    let i ← M.of (asInt x)
    pure (some i)
termination_by structural x => x
def evT : T → M Bool
  | .no a => do
    let b ← evT a
    pure (!b)
  | .and a b => do
    let x ← evT a
    if x then evT b else pure false
  | .or a b => do
    let x ← evT a
    if x then pure true else evT b
  | .v e => do
    let p ← pnOf e (ev e)
    let x ← rd p
    M.of (truD x)
termination_by structural x => x
def evTs : Option T → M Bool
  | none => pure true
  | some c => evT c
termination_by structural x => x
def evI : It → M (List PyData)
  | .rng1 a => do
    let p ← pnOf a (ev a)
    let x ← rd p
    M.of (rngD1 x)
  | .rng2 a b => do
    let p ← pnOf a (ev a)
    let q ← pnOf b (ev b)
    let x ← rd p
    let y ← rd q
    M.of (rngD2 x y)
  | .it e => do
    let o ← ev e
    let d ← toD o
    M.of (itD d)
  | .enum es => do
    let os ← evs es
    let ds ← fzAllM os
    M.of (enumL ds)
  | .zip es => do
    let os ← evs es
    let ds ← fzAllM os
    M.of (zipL ds)
termination_by structural x => x
def evF : List (Option E × Str) → Str → M Str
  | [], acc => pure acc
  | (none, x) :: r, acc => if (acc ++ x).length ≤ sizeLine then evF r (acc ++ x) else fun _ => .stuck
  | (some e, _) :: r, acc => do
    let p ← pnOf e (ev e)
    let d ← rd p
    let x ← M.of (match d with | .int i => if i.natAbs.log2 < 1920 then some (toString i : Str) else none | _ => none)
    if (acc ++ x).length ≤ sizeLine then evF r (acc ++ x) else fun _ => .stuck
termination_by structural x => x
end

/-! ### statements -/
inductive S where
  | asgN (i : Nat) (e : E)
  | asg (t : Tg) (e : E)
  | par (is : List Nat) (es : List E)
  | app (i : Nat) (e : E)
  | ext (i : Nat) (e : E)
  | setI (i : Nat) (k e : E)
  | expr (e : E)
  | cond (c : T) (a b : List S)
  | loop (t : Tg) (it : It) (body : List S)
  | whil (fuel : DEnv → Nat) (c : T) (body : List S)
  | ret (e : E) | retN
  | rais (x : Nat)
  | brk | cont | pass
inductive SR where
  | nx (e : DEnv) | bk (e : DEnv) | ct (e : DEnv) | rt (o : O) (e : DEnv) | exc (x : Exc) (e : DEnv) | stuck
@[inline] def runM {α : Type} (m : M α) (k : α → DEnv → SR) (e : DEnv) : SR := match m e with
  | .ok a e' => k a e'
  | .exc x e' => .exc x e'
  | .stuck => .stuck
def forD (st : PyData → M Unit) (body : DEnv → SR) : List PyData → DEnv → SR
  | [], e => .nx e
  | d :: ds, e => runM (st d) (fun _ e1 => match body e1 with
    | .nx e2 => forD st body ds e2
    | .ct e2 => forD st body ds e2
    | .bk e2 => .nx e2
    | .rt o e2 => .rt o e2
    | .exc x e2 => .exc x e2
    | .stuck => .stuck) e
def whileD (c : M Bool) (body : DEnv → SR) : Nat → DEnv → SR
  | 0, _ => .stuck
  | n + 1, e => runM c (fun b e1 => if b then match body e1 with
    | .nx e2 => whileD c body n e2
    | .ct e2 => whileD c body n e2
    | .bk e2 => .nx e2
    | .rt o e2 => .rt o e2
    | .exc x e2 => .exc x e2
    | .stuck => .stuck else .nx e1) e
def seqS (a : SR) (k : DEnv → SR) : SR := match a with
  | .nx e => k e
  | r => r
variable (Φ : List FnSem)
mutual
def st : S → DEnv → SR
  | .asgN i e, env => runM (ev Φ e) (fun o e1 => if i < e1.length then .nx (e1.set i (some o)) else .stuck) env
  | .asg t e, env => runM (ev Φ e) (fun o => runM (toD o) (fun d => runM (asgD t d) (fun _ e2 => .nx e2))) env
  | .par is es, env => runM (evs Φ es) (fun os e1 => if os.length = is.length ∧ is.all (fun i => decide (i < e1.length)) = true then .nx (setAll e1 is (os.map some)) else .stuck) env
  | .app i e, env => runM (chkLst i) (fun _ => runM (ev Φ e) (fun o e1 => match e1[i]? with
    | some (some (.lst xs)) => if xs.length < sizeLine then .nx (e1.set i (some (.lst (xs ++ [o])))) else .stuck
    | _ => .stuck)) env
  | .ext i e, env => runM (chkLst i) (fun _ => runM (ev Φ e) (fun o e1 => match e1[i]?, o with
    | some (some (.lst xs)), .lst ys => if xs.length + ys.length ≤ sizeLine then .nx (e1.set i (some (.lst (xs ++ ys)))) else .stuck
    | _, _ => .stuck)) env
  | .setI i k e, env => runM (chkLst i) (fun _ => runM (ev Φ e) (fun o => runM (pnOf k (ev Φ k)) (fun p => runM (rd p) (fun d e1 => match e1[i]?, d with
    | some (some (.lst xs)), .int j => match L2.ixN xs.length j with
      | some n => .nx (e1.set i (some (.lst (xs.set n o))))
      | none => .stuck
    | _, _ => .stuck)))) env
  | .expr e, env => runM (ev Φ e) (fun _ e1 => .nx e1) env
  | .cond c a b, env => runM (evT Φ c) (fun t e1 => if t then sts a e1 else sts b e1) env
  | .loop t it body, env => runM (evI Φ it) (fun ds e1 => forD (asgD t) (sts body) ds e1) env
  | .whil fuel c body, env => whileD (evT Φ c) (sts body) (fuel env) env
  | .ret e, env => runM (ev Φ e) (fun o e1 => .rt o e1) env
  | .retN, env => .rt (.val .none) env
  | .rais x, env => .exc ⟨x⟩ env
  | .brk, env => .bk env
  | .cont, env => .ct env
  | .pass, env => .nx env
termination_by structural x => x
def sts : List S → DEnv → SR
  | [], env => .nx env
  | s :: r, env => seqS (st s env) (sts r)
termination_by structural x => x
end
/-- a def: the leading parameters that it hands back, its parameters, its slots, its body -/
structure Df where
  nIn : Nat
  nP : Nat
  nS : Nat
  body : List S
def Df.sem (Φ : List FnSem) (d : Df) : FnSem where
  run := fun os => if os.length = d.nP then
    match sts Φ d.body (os.map some ++ List.replicate (d.nS - d.nP) none) with
    | .rt o e => match getAll e (List.range d.nIn) with
      | some outs => .ok o outs
      | none => .stuck
    | .nx e => match getAll e (List.range d.nIn) with
      | some outs => .ok (.val .none) outs
      | none => .stuck
    | .exc x _ => .exc x
    | _ => .stuck
    else .stuck
end DL
namespace DL
open PySem PySem.Spec PyProof.Rows L2

/-! ### steps of the heap -/
/-- all but what stands at A (lists that may change) and the tables of code is kept -/
structure Step (TB : List (Addr × Str)) (A : List Addr) (H H' : Hp) : Prop where
  keep : ∀ a o, H a = some o → a ∉ A → (∀ ps, o ≠ .tbl ps) → H' a = some o
  tblk : ∀ a ps, H a = some (.tbl ps) → ∃ ps', H' a = some (.tbl ps')
  le : Le H H'
  tabs : LamX.Tabs TB H → LamX.Tabs TB H'
def Fresh (A : List Addr) (H : Hp) (L : List Addr) : Prop := ∀ a ∈ L, a ∈ A ∨ H a = none
section
variable {TB : List (Addr × Str)} {A A1 L : List Addr} {H H1 H2 : Hp}
theorem Step.refl (A : List Addr) (H : Hp) : Step TB A H H := ⟨fun _ _ h _ _ => h, fun _ ps h => ⟨ps, h⟩, Le.refl H, id⟩
theorem Step.there (s : Step TB A H H1) {a : Addr} {o : HO} (h : H a = some o) (n : a ∉ A) : ∃ o', H1 a = some o' := by
  by_cases hz : ∃ ps, o = .tbl ps
  · obtain ⟨ps, rfl⟩ := hz
    obtain ⟨ps', e⟩ := s.tblk a ps h
    exact ⟨_, e⟩
  · exact ⟨o, s.keep a o h n fun ps e => hz ⟨ps, e⟩⟩
theorem Fresh.not (f : Fresh A H L) {a : Addr} {o : HO} (h : H a = some o) (n : a ∉ A) : a ∉ L := fun z => by
  rcases f a z with q | q
  · exact n q
  · rw [h] at q; cases q
theorem Step.trans (s1 : Step TB A H H1) (f : Fresh A H A1) (s2 : Step TB A1 H1 H2) : Step TB A H H2 where
  keep := fun a o h n t => s2.keep a o (s1.keep a o h n t) (f.not h n) t
  tblk := fun a ps h => let ⟨ps', e⟩ := s1.tblk a ps h; s2.tblk a ps' e
  le := s1.le.trans s2.le
  tabs := fun t => s2.tabs (s1.tabs t)
theorem Fresh.trans (s1 : Step TB A H H1) (f1 : Fresh A H A1) (f2 : Fresh A1 H1 L) : Fresh A H L := fun a ha => by
  rcases f2 a ha with q | q
  · exact f1 a q
  · by_cases hA : a ∈ A
    · exact .inl hA
    · refine .inr ?_
      cases e : H a with
      | none => rfl
      | some o =>
        obtain ⟨o', e'⟩ := s1.there e hA
        rw [q] at e'; cases e'
theorem Fresh.self (A : List Addr) (H : Hp) : Fresh A H A := fun _ h => .inl h
theorem Step.wide (s : Step TB A H H1) (h : ∀ a ∈ A, a ∈ L) : Step TB L H H1 := ⟨fun a o e n t => s.keep a o e (fun z => n (h a z)) t, s.tblk, s.le, s.tabs⟩
theorem tabs_lst (k : ∀ a o, H a = some o → (∀ xs, o ≠ .lst xs) → H1 a = some o) (t : LamX.Tabs TB H) : LamX.Tabs TB H1 := fun p hp => by
  obtain ⟨ps, h1, h2, h3⟩ := t p hp
  refine ⟨ps, k _ _ h1 (fun xs z => by cases z), h2, fun pos cv hc => ?_⟩
  obtain ⟨c, e1, e2⟩ := h3 pos cv hc
  exact ⟨c, e1, k _ _ e2 fun xs z => by cases z⟩
/-- lists at A change, all else is kept -/
theorem Step.lsts (hl : ∀ a ∈ A, ∃ xs, H a = some (.lst xs)) (k : ∀ a, a ∉ A → H1 a = H a) : Step TB A H H1 := by
  have nl : ∀ a o, H a = some o → (∀ xs, o ≠ .lst xs) → H1 a = some o := fun a o e n => by
    rw [k a fun z => ?_]; exact e
    obtain ⟨xs, q⟩ := hl a z
    rw [e] at q; exact n xs (Option.some.inj q)
  exact ⟨fun a o e n _ => by rw [k a n]; exact e, fun a ps e => ⟨ps, nl a _ e fun xs z => by cases z⟩,
    ⟨fun a xs e => nl a _ e (fun xs z => by cases z), fun a o u e => nl a _ e (fun xs z => by cases z)⟩, tabs_lst nl⟩
/-- a new object -/
theorem Step.new {p : Addr} {o : HO} (h : H p = none) : Step TB A H (upd H p o) := by
  have k : ∀ a u, H a = some u → upd H p o a = some u := fun a u e => by rw [upd_ne (ne_of_none e h)]; exact e
  exact ⟨fun a u e _ _ => k a u e, fun a ps e => ⟨ps, k a _ e⟩, ⟨fun a xs e => k a _ e, fun a o u e => k a _ e⟩, fun t => LamX.Tabs.ext t k⟩
end

/-! ### readings of the evaluator's answers -/
abbrev RepT (α β : Type) := L2.St → Hp → α → β → List Addr → Prop
section
variable (fa : List Addr) (K : PySem.W.Frag) (TB : List (Addr × Str)) (W : Exc → Hp → Prop)
def Cont {α β : Type} (rep : RepT α β) (σ : L2.St) (A : List Addr) (H : Hp) (r : R α) (Q : β → Hp → Prop) : Prop := match r with
  | .ok a env' => ∀ b H' A' B, Step TB A H H' → ES fa K H' env' σ A' → rep σ H' a b B → (A' ++ B).Nodup → Fresh A H (A' ++ B) → Q b H'
  | .exc x env' => ∀ H' A', Step TB A H H' → ES fa K H' env' σ A' → A'.Nodup → Fresh A H A' → W x H'
  | .stuck => False
def rdg {α β : Type} (rep : RepT α β) (f : M α) : L2.St → Hp → (β → Hp → Prop) → Prop := fun σ H Q =>
  ∃ env A, ES fa K H env σ A ∧ A.Nodup ∧ LamX.Tabs TB H ∧ Cont fa K TB W rep σ A H (f env) Q
def rO : RepT O V := fun _ H o v B => ORep fa K H o v B
def rP : RepT Pn V := fun σ H p v B => match p with
  | .o x => ORep fa K H x v B
  | .s i => B = [] ∧ σ[i]? = some (some v)
def rB {α : Type} : RepT α α := fun _ _ a b B => a = b ∧ B = []
def rL : RepT (List O) (List V) := fun _ H os vs B => ORepAll fa K H os vs B
def rPL : RepT (List Pn) (List V) := fun σ H ps vs B => match ps, vs with
  | [], vs => vs = [] ∧ B = []
  | p :: ps, vs => ∃ v r B1 B2, vs = v :: r ∧ B = B1 ++ B2 ∧ rP fa K σ H p v B1 ∧ rPL σ H ps r B2
end
section
variable {fa : List Addr} {K : PySem.W.Frag} {TB : List (Addr × Str)} {W : Exc → Hp → Prop} {α β γ δ : Type} {rep : RepT α β} {rep2 : RepT γ δ} {σ : L2.St} {A Bt L : List Addr} {H H1 : Hp}
theorem Cont.move {r : R α} {Q : β → Hp → Prop} (c : Cont fa K TB W rep σ A H r Q) (st : Step TB A H H1) (fr : Fresh A H L) : Cont fa K TB W rep σ L H1 r Q := by
  cases r with
  | ok a env' => exact fun b H' A' B s e r n f => c b H' A' B (st.trans fr s) e r n (Fresh.trans st fr f)
  | exc x env' => exact fun H' A' s e n f => c H' A' (st.trans fr s) e n (Fresh.trans st fr f)
  | stuck => exact c
theorem lsts_keep {H H' : Hp} (s : Step TB A H H') (hl : ∀ x ∈ Bt, ∃ xs, H x = some (.lst xs)) (nd : (A ++ Bt).Nodup) : ∀ x ∈ Bt, ∀ xs, H x = some (.lst xs) → H' x = some (.lst xs) := fun x hx xs e =>
  s.keep x _ e (fun z => (List.nodup_append.mp nd).2.2 x z x hx rfl) fun ps q => by cases q
/-- g runs while temporaries stand at Bt -/
theorem seqT {g : M α} {k : α → M γ} {env : DEnv} {Q : δ → Hp → Prop} {Q2 : β → Hp → Prop} (es : ES fa K H env σ A) (nd : (A ++ Bt).Nodup) (tb : LamX.Tabs TB H) (lt : ∀ x ∈ Bt, ∃ xs, H x = some (.lst xs))
    (c : Cont fa K TB W rep2 σ (A ++ Bt) H ((g >>= k) env) Q)
    (fin : ∀ a b H' env' A' B', Step TB A H H' → ES fa K H' env' σ A' → rep σ H' a b B' → (A' ++ (Bt ++ B')).Nodup → (∀ x ∈ Bt, ∀ xs, H x = some (.lst xs) → H' x = some (.lst xs)) → LamX.Tabs TB H' →
      Cont fa K TB W rep2 σ (A' ++ (Bt ++ B')) H' (k a env') Q → Q2 b H') : rdg fa K TB W rep g σ H Q2 := by
  refine ⟨env, A, es, (List.nodup_append.mp nd).1, tb, ?_⟩
  rw [M.bind_def] at c
  cases hg : g env with
  | stuck => rw [hg] at c; exact c
  | exc x env' =>
    rw [hg] at c
    intro H' A' s e n f
    exact c H' A' (s.wide fun a ha => List.mem_append_left _ ha) e n fun a ha => (f a ha).imp (fun z => List.mem_append_left _ z) id
  | ok a env' =>
    rw [hg] at c
    intro b H' A' B s e r n f
    have lk := lsts_keep s lt nd
    have nd' : (A' ++ (Bt ++ B)).Nodup := by
      have d : ∀ x ∈ Bt, x ∉ A' ++ B := fun x hx z => by
        obtain ⟨xs, q⟩ := lt x hx
        exact f.not q (fun z => (List.nodup_append.mp nd).2.2 x z x hx rfl) z
      rw [List.nodup_append] at n ⊢
      refine ⟨n.1, List.nodup_append.mpr ⟨(List.nodup_append.mp nd).2.1, n.2.1, fun x hx y hy q => d x hx (q ▸ List.mem_append_right _ hy)⟩, fun x hx y hy q => ?_⟩
      rcases List.mem_append.mp hy with hy | hy
      · exact d y hy (q ▸ List.mem_append_left _ hx)
      · exact n.2.2 x hx y hy q
    have s' : Step TB (A ++ Bt) H H' := s.wide fun a ha => List.mem_append_left _ ha
    have f' : Fresh (A ++ Bt) H (A' ++ (Bt ++ B)) := fun x hx => by
      rcases List.mem_append.mp hx with hx | hx
      · exact (f x (List.mem_append_left _ hx)).imp (fun z => List.mem_append_left _ z) id
      · rcases List.mem_append.mp hx with hx | hx
        · exact .inl (List.mem_append_right _ hx)
        · exact (f x (List.mem_append_right _ hx)).imp (fun z => List.mem_append_left _ z) id
    exact fin a b H' env' A' B s e r nd' lk (s.tabs tb) (Cont.move (show Cont fa K TB W rep2 σ (A ++ Bt) H (k a env') Q from c) s' f')
/-- the first of all -/
theorem seq0 {g : M α} {k : α → M γ} {Q : δ → Hp → Prop} {Q2 : β → Hp → Prop} (h : rdg fa K TB W rep2 (g >>= k) σ H Q)
    (fin : ∀ a b H' env' A' B', ES fa K H' env' σ A' → rep σ H' a b B' → (A' ++ B').Nodup → LamX.Tabs TB H' →
      Cont fa K TB W rep2 σ (A' ++ B') H' (k a env') Q → Q2 b H') : rdg fa K TB W rep g σ H Q2 := by
  obtain ⟨env, A, es, nd, tb, c⟩ := h
  refine seqT (Bt := []) es (by simpa using nd) tb (fun x hx => absurd hx (by simp)) (by simpa using c) fun a b H' env' A' B' s e r n _ tb' c' => ?_
  exact fin a b H' env' A' B' e r (by simpa using n) tb' (by simpa using c')

/-! ### the ends: a value is there -/
def VR (fa : List Addr) (K : PySem.W.Frag) (TB : List (Addr × Str)) (o : O) (H : Hp) (Q : VK) : Prop := ∀ v H' B, Step TB [] H H' → ORep fa K H' o v B → (∀ x ∈ B, H x = none) → B.Nodup → Q v H'
theorem Cont.vr {o : O} {env : DEnv} {Q : VK} (es : ES fa K H env σ A) (nd : (A ++ L).Nodup) (c : Cont fa K TB W (rO fa K) σ (A ++ L) H (.ok o env) Q) : VR fa K TB o H Q := fun v H' B s r fr ndB => by
  have nA := (List.nodup_append.mp nd).1
  have hl := ES.lsts es
  refine c v H' A B (s.wide (by simp)) (es.mono s.le fun a ha xs e => s.keep a _ e (by simp) fun ps q => by cases q) r (List.nodup_append.mpr ⟨nA, ndB, fun x hx y hy q => ?_⟩) fun x hx => ?_
  · obtain ⟨xs, e⟩ := hl x hx
    have := fr y hy
    rw [← q, e] at this; cases this
  · rcases List.mem_append.mp hx with hx | hx
    · exact .inl (List.mem_append_left _ hx)
    · exact .inr (fr x hx)
theorem VR.val {d : PyData} {v : V} {Q : VK} (h : VR fa K TB (.val d) H Q) (r : Rep K H d v) : Q v H := h v H [] (Step.refl [] H) (show ORep fa K H (.val d) v [] from ⟨rfl, r⟩) (by simp) (by simp)
theorem VR.tup {ds : List PyData} {vs : List V} {Q : VK} (h : VR fa K TB (.val (.tuple ds)) H Q) (r : RepAll K H ds vs) : ∀ p, H p = none → Q (.ref p) (upd H p (.tup vs)) := fun p hp => by
  have s : Step TB [] H (upd H p (.tup vs)) := Step.new hp
  refine h _ _ [] s ?_ (by simp) (by simp)
  exact (show ORep fa K _ (.val (.tuple ds)) (.ref p) [] from ⟨rfl, p, vs, rfl, SqT.of upd_same, RepAll.mono s.le ds r⟩)
theorem oall_val : ∀ {ds : List PyData} {vs : List V}, RepAll K H ds vs → ORepAll fa K H (ds.map O.val) vs []
  | [], vs, r => by
    simp only [RepAll] at r
    exact (show ORepAll fa K H [] vs [] from ⟨r, rfl⟩)
  | d :: ds, vs, r => by
    simp only [RepAll] at r
    obtain ⟨v, q, e, h1, h2⟩ := r
    simp only [List.map_cons, ORepAll, ORep]
    exact ⟨v, q, [], [], e, rfl, ⟨rfl, h1⟩, oall_val h2⟩
theorem VR.lst {ds : List PyData} {vs : List V} {Q : VK} (h : VR fa K TB (.lst (ds.map O.val)) H Q) (r : RepAll K H ds vs) : ∀ p, H p = none → Q (.ref p) (upd H p (.lst vs)) := fun p hp => by
  have s : Step TB [] H (upd H p (.lst vs)) := Step.new hp
  refine h _ _ [p] s ?_ (by simpa using hp) (by simp)
  simp only [ORep]
  exact ⟨p, vs, [], rfl, rfl, upd_same, oall_val (RepAll.mono s.le ds r)⟩
/-- what is read: a list may be one that changes, its items may not -/
def RdR (K : PySem.W.Frag) (H : Hp) (d : PyData) (v : V) : Prop := match d with
  | .list ds => ∃ a vs, v = .ref a ∧ RdL K H a vs ∧ RepAll K H ds vs
  | d => Rep K H d v
theorem Rep.rdr {d : PyData} {v : V} (r : Rep K H d v) : RdR K H d v := by
  cases d <;> first
    | exact r
    | (simp only [Rep] at r
       obtain ⟨a, vs, e, f, q⟩ := r
       exact ⟨a, vs, e, f.rdl, q⟩)
theorem valsOf_rep : ∀ {xs : List O} {vs : List V} {B : List Addr} {ds : List PyData}, ORepAll fa K H xs vs B → valsOf xs = some ds → RepAll K H ds vs
  | [], vs, B, ds, h, e => by
    simp only [valsOf, Option.some.injEq] at e
    subst e
    simp only [ORepAll] at h
    exact h.1
  | .val d :: xs, vs, B, ds, h, e => by
    simp only [valsOf, Option.map_eq_some_iff] at e
    obtain ⟨ds', e1, rfl⟩ := e
    simp only [ORepAll, ORep] at h
    obtain ⟨v, r, A1, A2, e2, e3, h1, h2⟩ := h
    exact ⟨v, r, e2, h1.2, valsOf_rep h2 e1⟩
  | .fn j :: xs, vs, B, ds, h, e => by simp [valsOf] at e
  | .lst ys :: xs, vs, B, ds, h, e => by simp [valsOf] at e
theorem ORep.rdr {o : O} {v : V} {B : List Addr} {d : PyData} (r : ORep fa K H o v B) (e : o.rdv = some d) : RdR K H d v := by
  cases o with
  | val d' =>
    simp only [O.rdv, Option.some.injEq] at e
    subst e
    simp only [ORep] at r
    exact r.2.rdr
  | fn j => simp [O.rdv] at e
  | lst xs =>
    simp only [O.rdv, Option.map_eq_some_iff] at e
    obtain ⟨ds, e1, rfl⟩ := e
    simp only [ORep] at r
    obtain ⟨a, vs, As, e2, e3, e4, e5⟩ := r
    exact ⟨a, vs, e3, .inl (Rd.of e4), valsOf_rep e5 e1⟩
theorem RdR.dp {d : PyData} {v : V} (r : RdR K H d v) : Dp K H v d := by
  cases d with
  | list ds =>
    obtain ⟨a, vs, e, f, q⟩ := r
    subst e
    exact .lst f.sq (RepAll.dp ds q)
  | _ => exact Rep.dp _ r
/-- a use of an operand -/
theorem rd_ok {p : Pn} {v : V} {B : List Addr} {env : DEnv} {k : PyData → M γ} {Q : δ → Hp → Prop} (es : ES fa K H env σ A) (r : rP fa K σ H p v B) (c : Cont fa K TB W rep2 σ L H ((rd p >>= k) env) Q) :
    ∃ d, RdR K H d v ∧ rd p env = .ok d env ∧ Cont fa K TB W rep2 σ L H (k d env) Q := by
  rw [M.bind_def] at c
  cases p with
  | o x =>
    cases e : x.rdv with
    | none => simp [rd, M.of, e, Cont] at c
    | some d =>
      simp only [rd, M.of, e] at c
      exact ⟨d, ORep.rdr (show ORep fa K H x v B from r) e, by simp [rd, M.of, e], c⟩
  | s i =>
    obtain ⟨rfl, hs⟩ := r
    cases e : env[i]? with
    | none => simp [rd, e, Cont] at c
    | some oo =>
      cases oo with
      | none => simp [rd, e, Cont] at c
      | some o =>
        cases e2 : o.rdv with
        | none => simp [rd, M.of, e, e2, Cont] at c
        | some d =>
          simp only [rd, M.of, e, e2] at c
          obtain ⟨A1, B, A2, y, _, h2, h3, _, _⟩ := es.slot e
          obtain ⟨v', rfl, h4⟩ := h3 o rfl
          rw [hs] at h2
          cases h2
          exact ⟨d, ORep.rdr h4 e2, by simp [rd, M.of, e, e2], c⟩
theorem of_ok {o : Option α} {env : DEnv} {k : α → M γ} {Q : δ → Hp → Prop} (c : Cont fa K TB W rep2 σ L H ((M.of o >>= k) env) Q) : ∃ a, o = some a ∧ Cont fa K TB W rep2 σ L H (k a env) Q := by
  rw [M.bind_def] at c
  cases o with
  | none => exact c.elim
  | some a => exact ⟨a, rfl, c⟩
theorem of_end {o : Option γ} {env : DEnv} {Q : δ → Hp → Prop} (c : Cont fa K TB W rep2 σ L H (M.of o env) Q) : ∃ a, o = some a ∧ Cont fa K TB W rep2 σ L H (.ok a env) Q := by
  cases o with
  | none => exact c.elim
  | some a => exact ⟨a, rfl, c⟩
theorem rP.mono {H H' : Hp} {p : Pn} {v : V} {B : List Addr} (r : rP fa K σ H p v B) (l : Le H H') (k : ∀ a ∈ B, ∀ xs, H a = some (.lst xs) → H' a = some (.lst xs)) : rP fa K σ H' p v B := by
  cases p with
  | o x => exact ORep.mono l x (show ORep fa K H x v B from r) k
  | s i => exact r
theorem rP.lsts {p : Pn} {v : V} {B : List Addr} (r : rP fa K σ H p v B) : ∀ a ∈ B, ∃ xs, H a = some (.lst xs) := by
  cases p with
  | o x => exact ORep.lsts x (show ORep fa K H x v B from r)
  | s i => rw [r.1]; simp
end

/-! ### locks behind an expression -/
inductive LkQ (R : Hp → Prop) : Hp → Prop where
  | here {H : Hp} : R H → LkQ R H
  | lock {H : Hp} {a : Addr} {xs : List V} : H a = some (.lst xs) → (∀ o, LkQ R (upd H a (.frz o (.lst xs)))) → LkQ R H
theorem LkQ.inv {R : Hp → Prop} {H : Hp} (h : LkQ R H) : ∀ {X : Cx} {pins : List (Addr × Obj)} {σ : L2.St} {s : Shared}, Inv X pins σ H s → ∃ H', Inv X pins σ H' s ∧ R H' := by
  induction h with
  | here q => exact fun I => ⟨_, I, q⟩
  | lock e _ ih =>
    intro X pins σ s I
    obtain ⟨od, I1⟩ := I.lock e (by simp [Mut])
    exact ih od I1
theorem post {X : Cx} {e : Expr} {t : TE} (h : PE X e t) : PE X e (fun σ H Q => t σ H fun v H1 => LkQ (Q v) H1) := ⟨fun pins s σ H Q I q =>
  thn (h.run pins s σ H _ I q) fun u s1 ⟨v, H1, I1, r, l⟩ => let ⟨H2, I2, q2⟩ := l.inv I1; ⟨v, H2, I2, r, q2⟩⟩
theorem _root_.L2.PE.imp {X : Cx} {e : Expr} {t t' : TE} (h : PE X e t) (i : ∀ σ H Q, t' σ H Q → t σ H Q) : PE X e t' := ⟨fun pins s σ H Q I q => h.run pins s σ H Q I (i σ H Q q)⟩
theorem _root_.L2.PT.imp {X : Cx} {e : Expr} {t t' : TT} (h : PT X e t) (i : ∀ σ H Q, t' σ H Q → t σ H Q) : PT X e t' := ⟨fun pins s σ H Q I q => h.run pins s σ H Q I (i σ H Q q)⟩
theorem _root_.L2.PA.imp {X : Cx} {e : List Expr} {t t' : TA} (h : PA X e t) (i : ∀ σ H Q, t' σ H Q → t σ H Q) : PA X e t' := ⟨fun pos pins s σ H Q I q => h.run pos pins s σ H Q I (i σ H Q q)⟩
section
variable {fa : List Addr} {K : PySem.W.Frag} {TB : List (Addr × Str)}
theorem LkQ.all {R : Hp → Prop} {H : Hp} (h : LkQ (LkQ R) H) : LkQ R H := by
  induction h with
  | here q => exact q
  | lock e _ ih => exact .lock e ih
mutual
/-- what is owned is frozen -/
theorem fz_lk : ∀ (o : O) {v : V} {B : List Addr} {d : PyData} {H : Hp} {R : Hp → Prop}, ORep fa K H o v B → o.fz = some d → B.Nodup → (∀ H', Step TB B H H' → (∀ a, a ∉ B → H' a = H a) → Rep K H' d v → R H') → LkQ R H
  | .val d', v, B, d, H, R, r, e, nd, h => by
    simp only [O.fz, Option.some.injEq] at e
    subst e
    simp only [ORep] at r
    exact .here (h H (Step.refl _ _) (fun _ _ => rfl) r.2)
  | .fn j, v, B, d, H, R, r, e, nd, h => by simp [O.fz] at e
  | .lst xs, v, B, d, H, R, r, e, nd, h => by
    simp only [O.fz, Option.map_eq_some_iff] at e
    obtain ⟨ds, e1, rfl⟩ := e
    simp only [ORep] at r
    obtain ⟨a, vs, As, e2, e3, e4, e5⟩ := r
    subst e2
    have na : a ∉ As := (List.nodup_cons.mp nd).1
    refine LkQ.all (fz_lks xs e5 e1 (List.nodup_cons.mp nd).2 fun H1 s1 k1 r1 => ?_)
    have h1 : H1 a = some (.lst vs) := by rw [k1 a na]; exact e4
    refine LkQ.lock h1 fun o => LkQ.here ?_
    have s2 : Step TB [a] H1 (upd H1 a (.frz o (.lst vs))) := Step.lsts (fun b hb => by simp at hb; subst hb; exact ⟨_, h1⟩) fun b hb => upd_ne (by simpa using hb)
    refine h _ ((s1.wide (L := a :: As) fun b hb => List.mem_cons_of_mem _ hb).trans (A1 := a :: As) (Fresh.self _ _) (s2.wide fun b hb => by simp at hb; simp [hb])) (fun b hb => ?_) ?_
    · rw [upd_ne fun z => hb (by simp [z]), k1 b fun z => hb (by simp [z])]
    · simp only [Rep]
      exact ⟨a, vs, e3, .inl ⟨o, upd_same⟩, RepAll.mono s2.le ds r1⟩
theorem fz_lks : ∀ (xs : List O) {vs : List V} {B : List Addr} {ds : List PyData} {H : Hp} {R : Hp → Prop}, ORepAll fa K H xs vs B → O.fzAll xs = some ds → B.Nodup → (∀ H', Step TB B H H' → (∀ a, a ∉ B → H' a = H a) → RepAll K H' ds vs → R H') → LkQ R H
  | [], vs, B, ds, H, R, r, e, nd, h => by
    simp only [O.fzAll, Option.some.injEq] at e
    subst e
    simp only [ORepAll] at r
    exact .here (h H (Step.refl _ _) (fun _ _ => rfl) (by simp only [RepAll]; exact r.1))
  | x :: xs, vs, B, ds, H, R, r, e, nd, h => by
    simp only [O.fzAll, Option.bind_eq_some_iff, Option.map_eq_some_iff] at e
    obtain ⟨d, e1, ds', e2, rfl⟩ := e
    simp only [ORepAll] at r
    obtain ⟨v, q, A1, A2, e3, e4, r1, r2⟩ := r
    subst e4
    obtain ⟨n1, n2, n3⟩ := List.nodup_append.mp nd
    refine LkQ.all (fz_lk x r1 e1 n1 fun H1 s1 k1 q1 => ?_)
    have r2' : ORepAll fa K H1 xs q A2 := ORepAll.mono s1.le xs r2 fun a ha ys e => by rw [k1 a fun z => n3 a z a ha rfl]; exact e
    refine fz_lks xs r2' e2 n2 fun H2 s2 k2 q2 => ?_
    refine h H2 ((s1.wide fun b hb => List.mem_append_left _ hb).trans (A1 := A1 ++ A2) (Fresh.self _ _) (s2.wide fun b hb => List.mem_append_right _ hb)) (fun b hb => ?_) ?_
    · rw [k2 b fun z => hb (List.mem_append_right _ z), k1 b fun z => hb (List.mem_append_left _ z)]
    · simp only [RepAll]
      exact ⟨v, q, e3, Rep.mono s2.le d q1, q2⟩
end
end
end DL
namespace DL
open PySem PySem.Spec PyProof.Rows L2
section
variable {fa : List Addr} {TB : List (Addr × Str)} {W : Exc → Hp → Prop} {X : Cx} {e a b : Expr} {es : List Expr} {pos p p2 : Pos}
/-- the judgements -/
abbrev DE (fa : List Addr) (TB : List (Addr × Str)) (W : Exc → Hp → Prop) (X : Cx) (e : Expr) (f : M O) : Prop := PE X e (rdg fa X.K TB W (rO fa X.K) f)
abbrev DP (fa : List Addr) (TB : List (Addr × Str)) (W : Exc → Hp → Prop) (X : Cx) (e : Expr) (f : M Pn) : Prop := PE X e (rdg fa X.K TB W (rP fa X.K) f)
abbrev DT (fa : List Addr) (TB : List (Addr × Str)) (W : Exc → Hp → Prop) (X : Cx) (e : Expr) (f : M Bool) : Prop := PT X e (rdg fa X.K TB W rB f)
abbrev DA (fa : List Addr) (TB : List (Addr × Str)) (W : Exc → Hp → Prop) (X : Cx) (es : List Expr) (f : M (List O)) : Prop := PA X es (rdg fa X.K TB W (rL fa X.K) f)
abbrev DPA (fa : List Addr) (TB : List (Addr × Str)) (W : Exc → Hp → Prop) (X : Cx) (es : List Expr) (f : M (List Pn)) : Prop := PA X es (rdg fa X.K TB W (rPL fa X.K) f)

/-! ### constants, names -/
theorem de_const {v : V} {d : PyData} (h : PE X e (tC v)) (r : ∀ H, Rep X.K H d v) : DE fa TB W X e (pure (.val d)) := h.imp fun σ H Q ⟨env, A, es, nd, tb, c⟩ =>
  (Cont.vr (L := []) (W := W) es (by simpa using nd) (by rw [List.append_nil]; exact c)).val (r H)
theorem de_fn {ad : Addr} {j : Nat} (h : PE X e (tC (.ref ad))) (r : fa[j]? = some ad) : DE fa TB W X e (pure (.fn j)) := h.imp fun σ H Q ⟨env, A, es, nd, tb, c⟩ =>
  (Cont.vr (L := []) (W := W) (o := .fn j) es (by simpa using nd) (by rw [List.append_nil]; exact c)) _ H [] (Step.refl _ _) (show ORep fa X.K H (.fn j) (.ref ad) [] from ⟨rfl, ad, r, rfl⟩) (by simp) (by simp)
theorem set_same {α : Type} : ∀ {l : List α} {i : Nat} {x : α}, l[i]? = some x → l.set i x = l
  | [], _, _, h => by simp at h
  | y :: l, 0, x, h => by simp at h; simp [h]
  | y :: l, i + 1, x, h => by simp only [List.set_cons_succ]; rw [set_same (by simpa using h)]
theorem nodup_mid {α : Type} {A1 B A2 : List α} (h : (A1 ++ (B ++ A2)).Nodup) : (A1 ++ A2).Nodup ∧ B.Nodup ∧ (∀ x ∈ B, x ∉ A1 ++ A2) := by
  obtain ⟨h1, h2, h3⟩ := List.nodup_append.mp h
  obtain ⟨h4, h5, h6⟩ := List.nodup_append.mp h2
  refine ⟨List.nodup_append.mpr ⟨h1, h5, fun x hx y hy => h3 x hx y (List.mem_append_right _ hy)⟩, h4, fun x hx z => ?_⟩
  rcases List.mem_append.mp z with z | z
  · exact h3 x z x (List.mem_append_left _ hx) rfl
  · exact h6 x hx x z rfl
theorem mid_nodup {α : Type} {A1 B A2 : List α} (h : (A1 ++ A2).Nodup) (hB : B.Nodup) (hd : ∀ x ∈ B, x ∉ A1 ++ A2) : (A1 ++ (B ++ A2)).Nodup := by
  obtain ⟨h1, h2, h3⟩ := List.nodup_append.mp h
  refine List.nodup_append.mpr ⟨h1, List.nodup_append.mpr ⟨hB, h2, fun x hx y hy z => hd x hx (List.mem_append_right _ (z ▸ hy))⟩, fun x hx y hy z => ?_⟩
  rcases List.mem_append.mp hy with hy | hy
  · exact hd y hy (List.mem_append_left _ (z ▸ hx))
  · exact h3 x hx y hy z
theorem de_var {i : Nat} (h : PE X e (tVar i)) : DE fa TB W X e (slotV i) := (post h).imp fun σ H Q ⟨env, A, es, nd, tb, c⟩ => by
  unfold slotV at c
  cases h1 : env[i]? with
  | none => simp [h1, Cont] at c
  | some oo =>
    cases oo with
    | none => simp [h1, Cont] at c
    | some o =>
      obtain ⟨A1, B, A2, y, hA, hs, hv, _, hset⟩ := es.slot h1
      obtain ⟨v, rfl, ho⟩ := hv o rfl
      refine ⟨v, hs, ?_⟩
      simp only [h1] at c
      cases h2 : o.fz with
      | some d =>
        simp only [h2] at c
        subst hA
        obtain ⟨n1, n2, n3⟩ := nodup_mid nd
        refine fz_lk (TB := TB) o ho h2 n2 fun H' s' k' r' => ?_
        have e' : ES fa X.K H' (env.set i (some (.val d))) σ (A1 ++ ([] ++ A2)) := by
          have := hset H' (some (.val d)) (some v) [] s'.le (fun a ha xs e => by rw [k' a fun z => n3 a z ha]; exact e) (fun o z => by cases z; exact ⟨v, rfl, show ORep fa X.K H' (.val d) v [] from ⟨rfl, r'⟩⟩) (by simp)
          rwa [set_same hs] at this
        refine c v H' (A1 ++ ([] ++ A2)) [] (s'.wide fun a ha => by simp [ha]) e' (show ORep fa X.K H' (.val d) v [] from ⟨rfl, r'⟩) (by simpa using n1) fun a ha => .inl ?_
        simp only [List.nil_append, List.append_nil, List.mem_append] at ha ⊢
        rcases ha with ha | ha <;> simp [ha]
      | none =>
        simp only [h2] at c
        cases o with
        | fn j =>
          simp only [ORep] at ho
          obtain ⟨hB, ad, h3, h4⟩ := ho
          exact .here (c v H A [] (Step.refl _ _) es (show ORep fa X.K H (.fn j) v [] from ⟨rfl, ad, h3, h4⟩) (by simpa using nd) (by simpa using Fresh.self _ _))
        | val d => simp [Cont] at c
        | lst xs => simp [Cont] at c
theorem de_mv {i : Nat} (h : PE X e (tVar i)) : DE fa TB W X e (slotM i) := h.imp fun σ H Q ⟨env, A, es, nd, tb, c⟩ => by
  unfold slotM at c
  cases h1 : env[i]? with
  | none => simp [h1, Cont] at c
  | some oo =>
    cases oo with
    | none => simp [h1, Cont] at c
    | some o =>
      obtain ⟨A1, B, A2, y, hA, hs, hv, _, hset⟩ := es.slot h1
      obtain ⟨v, rfl, ho⟩ := hv o rfl
      refine ⟨v, hs, ?_⟩
      simp only [h1] at c
      subst hA
      obtain ⟨n1, n2, n3⟩ := nodup_mid nd
      have e' : ES fa X.K H (env.set i none) σ (A1 ++ ([] ++ A2)) := by
        have := hset H none (some v) [] (Le.refl H) (fun a ha xs e => e) (fun o z => by cases z) (fun _ => rfl)
        rwa [set_same hs] at this
      refine c v H (A1 ++ ([] ++ A2)) B (Step.refl _ _) e' ho ?_ fun a ha => .inl ?_
      · simp only [List.nil_append]
        exact List.nodup_append.mpr ⟨n1, n2, fun x hx y hy z => n3 y hy (z ▸ hx)⟩
      · simp only [List.nil_append, List.mem_append] at ha ⊢
        rcases ha with (ha | ha) | ha <;> simp [ha]
/-- an operand by its slot -/
theorem dp_var {i : Nat} (h : PE X e (tVar i)) : DP fa TB W X e (slotP i) := h.imp fun σ H Q ⟨env, A, es, nd, tb, c⟩ => by
  unfold slotP at c
  cases h1 : env[i]? with
  | none => simp [h1, Cont] at c
  | some oo =>
    cases oo with
    | none => simp [h1, Cont] at c
    | some o =>
      obtain ⟨A1, B, A2, y, hA, hs, hv, _, hset⟩ := es.slot h1
      obtain ⟨v, rfl, ho⟩ := hv o rfl
      simp only [h1] at c
      exact ⟨v, hs, c v H A [] (Step.refl _ _) es ⟨rfl, hs⟩ (by simpa using nd) (by simpa using Fresh.self _ _)⟩
theorem dp_of {f : M O} (h : DE fa TB W X e f) : DP fa TB W X e (f >>= fun o => pure (.o o)) := h.imp fun σ H Q hh =>
  seq0 hh fun o v H' env' A' B' es r nd tb c => c v H' A' B' (Step.refl _ _) es r nd (Fresh.self _ _)

/-! ### lists of operands -/
theorem da_nil : DA fa TB W X [] (pure []) := pa_nil.imp fun σ H Q ⟨env, A, es, nd, tb, c⟩ => c [] H A [] (Step.refl _ _) es (show ORepAll fa X.K H [] [] [] from ⟨rfl, rfl⟩) (by simpa using nd) (by simpa using Fresh.self _ _)
theorem da_cons {f : M O} {g : M (List O)} (h1 : DE fa TB W X e f) (h2 : DA fa TB W X es g) (hs : starEach (e :: es) X.env = (false, eval e X.env) :: starEach es X.env) : DA fa TB W X (e :: es) (f >>= fun o => g >>= fun os => pure (o :: os)) :=
  (pa_cons h1 h2 hs).imp fun σ H Q hh => seq0 hh fun o v H1 env1 A1 B1 es1 r1 nd1 tb1 c1 =>
    seqT es1 nd1 tb1 (ORep.lsts o r1) c1 fun os vs H2 env2 A2 B2 s2 es2 r2 nd2 k2 tb2 c2 =>
      c2 (v :: vs) H2 A2 (B1 ++ B2) (Step.refl _ _) es2 ⟨v, vs, B1, B2, rfl, rfl, ORep.mono s2.le o r1 k2, r2⟩ nd2 (Fresh.self _ _)
theorem dpa_nil : DPA fa TB W X [] (pure []) := pa_nil.imp fun σ H Q ⟨env, A, es, nd, tb, c⟩ => c [] H A [] (Step.refl _ _) es (by unfold rPL; exact ⟨rfl, rfl⟩) (by simpa using nd) (by simpa using Fresh.self _ _)
theorem dpa_cons {f : M Pn} {g : M (List Pn)} (h1 : DP fa TB W X e f) (h2 : DPA fa TB W X es g) (hs : starEach (e :: es) X.env = (false, eval e X.env) :: starEach es X.env) : DPA fa TB W X (e :: es) (f >>= fun o => g >>= fun os => pure (o :: os)) :=
  (pa_cons h1 h2 hs).imp fun σ H Q hh => seq0 hh fun o v H1 env1 A1 B1 es1 r1 nd1 tb1 c1 =>
    seqT es1 nd1 tb1 (rP.lsts r1) c1 fun os vs H2 env2 A2 B2 s2 es2 r2 nd2 k2 tb2 c2 =>
      c2 (v :: vs) H2 A2 (B1 ++ B2) (Step.refl _ _) es2 (by unfold rPL; exact ⟨v, vs, B1, B2, rfl, rfl, r1.mono s2.le k2, r2⟩) nd2 (Fresh.self _ _)
theorem rdAll_ok {K : PySem.W.Frag} {γ δ : Type} {rep2 : RepT γ δ} {σ : L2.St} {H : Hp} {A L : List Addr} {env : DEnv} {Q : δ → Hp → Prop} (es : ES fa K H env σ A) : ∀ {ps : List Pn} {vs : List V} {B : List Addr} {k : List PyData → M γ}, rPL fa K σ H ps vs B →
    Cont fa K TB W rep2 σ L H ((rdAll ps >>= k) env) Q → ∃ ds, Paired (fun d v => RdR K H d v) ds vs ∧ Cont fa K TB W rep2 σ L H (k ds env) Q
  | [], vs, B, k, r, c => by
    unfold rPL at r
    rw [r.1]
    exact ⟨[], .nil, c⟩
  | p :: ps, vs, B, k, r, c => by
    unfold rPL at r
    obtain ⟨v, q, B1, B2, e1, e2, r1, r2⟩ := r
    subst e1
    have c' : Cont fa K TB W rep2 σ L H ((rd p >>= fun d => rdAll ps >>= fun ds => k (d :: ds)) env) Q := by
      unfold rdAll at c
      simp only [M.bind_def] at c ⊢
      cases h1 : rd p env with
      | stuck => rw [h1] at c; exact c
      | exc x e' => rw [h1] at c; exact c
      | ok d e' =>
        rw [h1] at c
        simp only at c ⊢
        cases h2 : rdAll ps e' with
        | stuck => rw [h2] at c; exact c
        | exc x e' => rw [h2] at c; exact c
        | ok ds e'' => rw [h2] at c; exact c
    obtain ⟨d, h1, _, c1⟩ := rd_ok es r1 c'
    obtain ⟨ds, h2, c2⟩ := rdAll_ok es (k := fun ds => k (d :: ds)) r2 c1
    exact ⟨d :: ds, .cons h1 h2, c2⟩

/-! ### displays -/
theorem de_tup {x1 : Nat} {f : M (List O)} (h : DA fa TB W X es f) : DE fa TB W X (.Tuple es x1 pos) (f >>= fun os => fzAllM os >>= fun ds => M.of (if ds.length ≤ sizeLine then some (.val (.tuple ds)) else none)) :=
  (post (pe_tup h)).imp fun σ H Q hh => seq0 hh fun os vs H1 env1 A1 B1 es1 r1 nd1 tb1 c1 => by
    obtain ⟨ds, e1, c2⟩ := of_ok c1
    obtain ⟨o, e2, c3⟩ := of_end c2
    split at e2
    · rename_i hz
      cases e2
      have hl : ∀ {xs : List O} {ds : List PyData} {vs : List V} {B : List Addr}, O.fzAll xs = some ds → ORepAll fa X.K H1 xs vs B → vs.length = ds.length := by
        intro xs
        induction xs with
        | nil => intro ds vs B e r; simp only [O.fzAll, Option.some.injEq] at e; subst e; simp only [ORepAll] at r; rw [r.1]; rfl
        | cons x xs ih =>
          intro ds vs B e r
          simp only [O.fzAll, Option.bind_eq_some_iff, Option.map_eq_some_iff] at e
          obtain ⟨d, _, ds', e2, rfl⟩ := e
          simp only [ORepAll] at r
          obtain ⟨v, q, A1, A2, e3, e4, r1, r2⟩ := r
          subst e3
          simp [ih e2 r2]
      refine ⟨by rw [hl e1 r1]; exact hz, fun pp hp => ?_⟩
      have s1 : Step TB [] H1 (upd H1 pp (.tup vs)) := Step.new hp
      have nB : ∀ a ∈ A1 ++ B1, a ≠ pp := fun a ha z => by
        have : ∃ xs, H1 a = some (.lst xs) := by
          rcases List.mem_append.mp ha with ha | ha
          · exact ES.lsts es1 a ha
          · exact ORepAll.lsts os r1 a ha
        obtain ⟨xs, q⟩ := this
        rw [z, hp] at q; cases q
      have k1 : ∀ a ∈ A1 ++ B1, ∀ xs, H1 a = some (.lst xs) → upd H1 pp (.tup vs) a = some (.lst xs) := fun a ha xs q => by rw [upd_ne (nB a ha)]; exact q
      have r2 : ORepAll fa X.K (upd H1 pp (.tup vs)) os vs B1 := ORepAll.mono s1.le os r1 fun a ha => k1 a (List.mem_append_right _ ha)
      obtain ⟨n1, n2, n3⟩ := List.nodup_append.mp nd1
      refine fz_lks (TB := TB) os r2 e1 n2 fun H3 s3 k3 r3 => ?_
      have s13 : Step TB (A1 ++ B1) H1 H3 := (s1.wide (L := A1 ++ B1) (by simp)).trans (Fresh.self _ _) (s3.wide fun a ha => List.mem_append_right _ ha)
      refine c3 (.ref pp) H3 A1 [] s13 (es1.mono s13.le fun a ha xs q => ?_) (show ORep fa X.K H3 (.val (.tuple ds)) (.ref pp) [] from ⟨rfl, pp, vs, rfl, SqT.of (s3.le.tup _ _ upd_same), r3⟩) (by simpa using n1) fun a ha => .inl ?_
      · rw [k3 a fun z => n3 a ha a z rfl]
        exact k1 a (List.mem_append_left _ ha) xs q
      · simp only [List.append_nil] at ha
        exact List.mem_append_left _ ha
    · cases e2
theorem orepall_len {fa : List Addr} {K : PySem.W.Frag} {H : Hp} : ∀ {xs : List O} {vs : List V} {B : List Addr}, ORepAll fa K H xs vs B → vs.length = xs.length
  | [], _, _, r => by simp only [ORepAll] at r; rw [r.1]; rfl
  | x :: xs, vs, B, r => by
    simp only [ORepAll] at r
    obtain ⟨v, q, A1, A2, e3, e4, r1, r2⟩ := r
    subst e3
    simp [orepall_len r2]
theorem de_lst {f : M (List O)} (h : DA fa TB W X es f) : DE fa TB W X (.List es pos) (f >>= fun os => M.of (if os.length ≤ sizeLine then some (.lst os) else none)) :=
  (pe_lst h).imp fun σ H Q hh => seq0 hh fun os vs H1 env1 A1 B1 es1 r1 nd1 tb1 c1 => by
    obtain ⟨o, e2, c3⟩ := of_end c1
    split at e2
    · rename_i hz
      cases e2
      refine ⟨by rw [orepall_len r1]; exact hz, fun pp hp => ?_⟩
      have s1 : Step TB [] H1 (upd H1 pp (.lst vs)) := Step.new hp
      have nB : ∀ a ∈ A1 ++ B1, a ≠ pp := fun a ha z => by
        have : ∃ xs, H1 a = some (.lst xs) := by
          rcases List.mem_append.mp ha with ha | ha
          · exact ES.lsts es1 a ha
          · exact ORepAll.lsts os r1 a ha
        obtain ⟨xs, q⟩ := this
        rw [z, hp] at q; cases q
      have k1 : ∀ a ∈ A1 ++ B1, ∀ xs, H1 a = some (.lst xs) → upd H1 pp (.lst vs) a = some (.lst xs) := fun a ha xs q => by rw [upd_ne (nB a ha)]; exact q
      obtain ⟨n1, n2, n3⟩ := List.nodup_append.mp nd1
      refine c3 (.ref pp) _ A1 (pp :: B1) (s1.wide (by simp)) (es1.mono s1.le fun a ha => k1 a (List.mem_append_left _ ha)) (show ORep fa X.K _ (.lst os) (.ref pp) (pp :: B1) from ⟨pp, vs, B1, rfl, rfl, upd_same, ORepAll.mono s1.le os r1 fun a ha => k1 a (List.mem_append_right _ ha)⟩) ?_ fun a ha => ?_
      · refine List.nodup_append.mpr ⟨n1, List.nodup_cons.mpr ⟨fun z => nB pp (List.mem_append_right _ z) rfl, n2⟩, fun x hx y hy z => ?_⟩
        rcases List.mem_cons.mp hy with hy | hy
        · exact nB x (List.mem_append_left _ hx) (z.trans hy)
        · exact n3 x hx y hy z
      · rcases List.mem_append.mp ha with ha | ha
        · exact .inl (List.mem_append_left _ ha)
        · rcases List.mem_cons.mp ha with rfl | ha
          · exact .inr hp
          · exact .inl (List.mem_append_right _ ha)
    · cases e2
end
end DL
namespace DL
open PySem PySem.Spec PyProof.Rows L2
section
variable {fa : List Addr} {TB : List (Addr × Str)} {W : Exc → Hp → Prop} {X : Cx} {e a b : Expr} {es : List Expr} {pos p p2 : Pos}

/-! ### operators -/
theorem op_fdivX : OpR X (binaryOp .FloorDiv) (rI (fun _ j => j ≠ 0 ∧ j.natAbs.log2 < 9000) fun i j => .int (i.fdiv j)) := opI fun i j _ _ _ _ _ hc q => floordiv_int hc.1 q (.inl (PyProof.noPylong_of_log2 hc.2))
def rCatL (K : PySem.W.Frag) : R2 := fun x y H Q => ∃ l b xs zs, x = .ref l ∧ y = .ref b ∧ RdL K H l xs ∧ RdL K H b zs ∧ xs.length + zs.length ≤ sizeLine ∧ ∀ p, H p = none → Q (.ref p) (upd H p (.lst (xs ++ zs)))
theorem rd_obj {pins : List (Addr × Obj)} {σ : L2.St} {H : Hp} {s : Shared} {l : Addr} {xs : List V} (I : Inv X pins σ H s) (h : RdL X.K H l xs) :
    xs.length ≤ sizeLine ∧ ∃ (its : List Value) (n : Nat), Vals xs its ∧ xs.length = its.length ∧ s.heap.get? l = some { cls := .type "list", data := .seq its.toArray n } := by
  rcases h with h | ⟨its, n, hk, hz, r⟩
  · obtain ⟨z, its, n, r, e⟩ := h.ok I.hok
    exact ⟨z, its, n, r, r.length, e⟩
  · have e := r.length
    simp only [Array.length_toList] at e
    exact ⟨by omega, its.toList, n, r, r.length, by simpa using I.kIn l _ hk⟩
theorem op_catL : OpR X (binaryOp .Add) (rCatL X.K) := by
  intro pins s σ H x y v u Q I rx ry h
  obtain ⟨l, b, xs, zs, rfl, rfl, hH, hB, hz, q⟩ := h
  cases rx
  cases ry
  obtain ⟨z, its, n, r, hl, e⟩ := rd_obj I hH
  obtain ⟨z2, its2, n2, r2, hl2, e2⟩ := rd_obj I hB
  refine PySem.P.add_list e e2 ?_ (by rw [List.size_toArray, List.size_toArray]; omega)
  have ea : its.toArray ++ its2.toArray = (its ++ its2).toArray := by simp
  rw [ea]
  exact ⟨.ref _, _, I.lnew (t' := s.toks) (r.append r2) (by rw [List.length_append]; omega), rfl, q _ I.fresh⟩
def rRepL (K : PySem.W.Frag) : R2 := fun x y H Q => ∃ l k xs, x = .ref l ∧ y = .int k ∧ RdL K H l xs ∧ -(2 ^ 63) ≤ k ∧ k < 2 ^ 63 ∧ xs.length * k.toNat ≤ sizeLine ∧
  ∀ p, H p = none → Q (.ref p) (upd H p (.lst (List.replicate k.toNat xs).flatten))
theorem op_repL : OpR X (binaryOp .Mult) (rRepL X.K) := by
  intro pins s σ H x y v u Q I rx ry h
  obtain ⟨l, k, xs, rfl, rfl, hH, h1, h2, hz, q⟩ := h
  cases rx
  obtain ⟨t, rfl⟩ := ry
  obtain ⟨z, its, n, r, hl, e⟩ := rd_obj I hH
  have hlen : its.toArray.size * k.toNat ≤ sizeLine := by rw [List.size_toArray, ← hl]; exact hz
  have hcap : ¬ its.toArray.size * k.toNat > (2 ^ 63 - 1) / 8 := by
    have : (sizeLine : Nat) ≤ (2 ^ 63 - 1) / 8 := by decide
    omega
  have hfit : ¬ (!Builtin.List.listFitsIndex k) = true := by
    rw [fitsIndex_both h1 h2]
    exact Bool.false_ne_true
  have hlong : ¬ Builtin.List.listTooLong (its.toArray.size * k.toNat) = true := by
    rw [notLongL hlen]
    exact Bool.false_ne_true
  have hnew : List.foldl (fun x1 x2 => x1 ++ x2) #[] (List.replicate (if its.toArray.isEmpty = true then 0 else k.toNat) its.toArray) = (List.replicate k.toNat its).flatten.toArray := by
    have f0 : ∀ m : Nat, List.foldl (fun x1 x2 => x1 ++ x2) #[] (List.replicate m its.toArray) = (List.replicate m its).flatten.toArray := fun m => by
      have := foldl_rep its m []
      rw [List.nil_append] at this
      exact this
    rw [f0]
    cases its with
    | nil => simp
    | cons a r' => rw [if_neg (by simp)]
  refine wpAny_binaryOp_repeat_ref (T := "list") (U := "int") (by decide) ⟨_, e, rfl⟩ (fun s' => typeIs_int s' k t) noFill_list_mul F.fills_int_mul F.slot_int_rmul repeat_list F.slot_int_index.lookup
    (call_meets F.slot_int_rmul (typeIs_int s k t) F.entry_int_rmul (F.args_int_rmul_2 _ _) (int___rmul___int_list k t l its.toArray n)
      ⟨e, rfl, ⟨_, e, rfl⟩, call_meets F.slot_list_mul ⟨_, e, rfl⟩ F.entry_list_mul (F.args_list_mul_2 _ _) (AutoListH.list___mul___list_int_3 l its.toArray n k t hfit hcap hlong) ⟨e, ?_⟩⟩)
  rw [hnew]
  exact ⟨.ref _, _, I.lnew (t' := s.toks) (r.rep k.toNat) (by rw [PyProof.Rows.lm_len_rep_flat, Nat.mul_comm]; exact hz), rfl, q _ I.fresh⟩
theorem rep_flat {K : PySem.W.Frag} {H : Hp} {ds : List PyData} {vs : List V} (h : RepAll K H ds vs) : ∀ k : Nat, RepAll K H (List.replicate k ds).flatten (List.replicate k vs).flatten
  | 0 => by simp [RepAll]
  | k + 1 => by
    rw [List.replicate_succ, List.replicate_succ, List.flatten_cons, List.flatten_cons]
    exact h.append (rep_flat h k)
/-- what an operator's answer is, by values -/
def rBin (fa : List Addr) (TB : List (Addr × Str)) (K : PySem.W.Frag) (o : Operator) : R2 := fun x y H Q => ∃ dx dy ov, RdR K H dx x ∧ RdR K H dy y ∧ binD o dx dy = some ov ∧ VR fa K TB ov H Q
theorem RdR.int {K : PySem.W.Frag} {H : Hp} {i : Int} {v : V} (r : RdR K H (.int i) v) : v = .int i := r
theorem RdR.str {K : PySem.W.Frag} {H : Hp} {i : Str} {v : V} (r : RdR K H (.str i) v) : v = .str i := r
theorem RdR.bool {K : PySem.W.Frag} {H : Hp} {i : Bool} {v : V} (r : RdR K H (.bool i) v) : v = .bl i := r
theorem RdR.non {K : PySem.W.Frag} {H : Hp} {v : V} (r : RdR K H .none v) : v = .non := r
theorem RdR.tup {K : PySem.W.Frag} {H : Hp} {ds : List PyData} {v : V} (r : RdR K H (.tuple ds) v) : ∃ a vs, v = .ref a ∧ SqT K H a vs ∧ RepAll K H ds vs := by
  have : Rep K H (.tuple ds) v := r
  simpa only [Rep] using this
theorem op_bin (o : Operator) : OpR X (binaryOp o) (rBin fa TB X.K o) := by
  intro pins s σ H x y v u Q I rx ry h
  obtain ⟨dx, dy, ov, hx, hy, hb, q⟩ := h
  unfold binD at hb
  split at hb
  · obtain rfl := hx.int; obtain rfl := hy.int; cases hb
    exact op_add pins s σ H _ _ v u Q I rx ry ⟨_, _, rfl, rfl, q.val rfl⟩
  · obtain rfl := hx.int; obtain rfl := hy.int; cases hb
    exact op_sub pins s σ H _ _ v u Q I rx ry ⟨_, _, rfl, rfl, q.val rfl⟩
  · obtain rfl := hx.int; obtain rfl := hy.int
    split at hb
    · rename_i hc; cases hb
      exact op_mulW pins s σ H _ _ v u Q I rx ry ⟨_, _, rfl, rfl, hc, q.val rfl⟩
    · cases hb
  · obtain rfl := hx.int; obtain rfl := hy.int
    split at hb
    · rename_i hc; cases hb
      exact op_fdivX pins s σ H _ _ v u Q I rx ry ⟨_, _, rfl, rfl, hc, q.val rfl⟩
    · cases hb
  · obtain rfl := hx.int; obtain rfl := hy.int
    split at hb
    · rename_i hc; cases hb
      exact op_modN pins s σ H _ _ v u Q I rx ry ⟨_, _, rfl, rfl, hc, q.val rfl⟩
    · cases hb
  · obtain rfl := hx.int; obtain rfl := hy.int
    split at hb
    · rename_i hc; cases hb
      exact op_pow pins s σ H _ _ v u Q I rx ry ⟨_, _, rfl, rfl, hc, q.val rfl⟩
    · cases hb
  · obtain rfl := hx.int; obtain rfl := hy.int
    split at hb
    · rename_i hc; cases hb
      exact op_shl pins s σ H _ _ v u Q I rx ry ⟨_, _, rfl, rfl, hc, q.val rfl⟩
    · cases hb
  · obtain rfl := hx.int; obtain rfl := hy.int
    split at hb
    · rename_i hc; cases hb
      exact op_shr pins s σ H _ _ v u Q I rx ry ⟨_, _, rfl, rfl, hc, q.val rfl⟩
    · cases hb
  · obtain rfl := hx.int; obtain rfl := hy.int; cases hb
    exact op_and pins s σ H _ _ v u Q I rx ry ⟨_, _, rfl, rfl, q.val rfl⟩
  · obtain rfl := hx.int; obtain rfl := hy.int; cases hb
    exact op_or pins s σ H _ _ v u Q I rx ry ⟨_, _, rfl, rfl, q.val rfl⟩
  · obtain rfl := hx.int; obtain rfl := hy.int; cases hb
    exact op_xor pins s σ H _ _ v u Q I rx ry ⟨_, _, rfl, rfl, q.val rfl⟩
  · obtain rfl := hx.str; obtain rfl := hy.str
    split at hb
    · rename_i hc; cases hb
      exact op_add_str pins s σ H _ _ v u Q I rx ry ⟨_, _, rfl, rfl, hc, q.val rfl⟩
    · cases hb
  · rename_i xs ys
    obtain ⟨a1, vs, rfl, h1, r1⟩ := hx.tup
    obtain ⟨a2, us, rfl, h2, r2⟩ := hy.tup
    split at hb
    · rename_i hc; cases hb
      refine op_catA pins s σ H _ _ v u Q I rx ry ⟨_, _, _, _, rfl, rfl, h1, h2, by rw [r1.len, r2.len]; exact hc, fun z => ?_, fun _ z => ?_, fun _ _ => q.tup (r1.append r2)⟩
      · subst z
        have : xs = [] := by have := r1.len; simpa using this.symm
        subst this
        exact q.val (show Rep X.K H (.tuple ([] ++ ys)) (.ref a2) from by simp only [Rep]; exact ⟨a2, us, rfl, h2, r2⟩)
      · subst z
        have : ys = [] := by have := r2.len; simpa using this.symm
        subst this
        exact q.val (show Rep X.K H (.tuple (xs ++ [])) (.ref a1) from by simp only [Rep, List.append_nil]; exact ⟨a1, vs, rfl, h1, r1⟩)
    · cases hb
  · obtain ⟨a1, vs, rfl, h1, r1⟩ := hx
    obtain ⟨a2, us, rfl, h2, r2⟩ := hy
    split at hb
    · rename_i hc; cases hb
      exact op_catL pins s σ H _ _ v u Q I rx ry ⟨_, _, _, _, rfl, rfl, h1, h2, by rw [r1.len, r2.len]; exact hc, q.lst (r1.append r2)⟩
    · cases hb
  · obtain ⟨a1, vs, rfl, h1, r1⟩ := hx
    obtain rfl := hy.int
    split at hb
    · rename_i hc; cases hb
      exact op_repL pins s σ H _ _ v u Q I rx ry ⟨_, _, _, rfl, rfl, h1, hc.1, hc.2.1, by rw [r1.len]; exact hc.2.2, q.lst (rep_flat r1 _)⟩
    · cases hb
  · obtain ⟨a1, vs, rfl, h1, r1⟩ := hx.tup
    obtain rfl := hy.int
    split at hb
    · rename_i hc; cases hb
      refine op_repT pins s σ H _ _ v u Q I rx ry ⟨_, _, _, rfl, rfl, h1, fun z => hc.1 ?_, hc.2.1, hc.2.2.1, by rw [r1.len]; exact hc.2.2.2, q.tup (rep_flat r1 _)⟩
      have := r1.len
      rw [z] at this
      exact List.length_eq_zero_iff.mp this.symm
    · cases hb
  · cases hb
/-- two operands by their readings, then a rule by values -/
theorem seq2 {f g : M Pn} {k : PyData → PyData → M O} {σ : L2.St} {H : Hp} {Q : VK} {R : V → V → Hp → Prop}
    (hh : rdg fa X.K TB W (rO fa X.K) (f >>= fun p => g >>= fun q => rd p >>= fun x => rd q >>= fun y => k x y) σ H Q)
    (fin : ∀ dx dy x y H2 env2 A2 L, RdR X.K H2 dx x → RdR X.K H2 dy y → ES fa X.K H2 env2 σ A2 → (A2 ++ L).Nodup → LamX.Tabs TB H2 → Cont fa X.K TB W (rO fa X.K) σ (A2 ++ L) H2 (k dx dy env2) Q → R x y H2) :
    rdg fa X.K TB W (rP fa X.K) f σ H fun x H1 => rdg fa X.K TB W (rP fa X.K) g σ H1 fun y H2 => R x y H2 :=
  seq0 hh fun p x H1 env1 A1 B1 es1 r1 nd1 tb1 c1 => seqT es1 nd1 tb1 (rP.lsts r1) c1 fun q y H2 env2 A2 B2 s2 es2 r2 nd2 k2 tb2 c2 => by
    obtain ⟨dx, h1, _, c3⟩ := rd_ok es2 (r1.mono s2.le k2) c2
    obtain ⟨dy, h2, _, c4⟩ := rd_ok es2 r2 c3
    exact fin dx dy x y H2 env2 A2 _ h1 h2 es2 nd2 tb2 c4
theorem de_op {o : Operator} {f g : M Pn} (ha : DP fa TB W X a f) (hb : DP fa TB W X b g) : DE fa TB W X (.BinOp a o b pos) (f >>= fun p => g >>= fun q => rd p >>= fun x => rd q >>= fun y => M.of (binD o x y)) :=
  (pe_op (op_bin (fa := fa) (TB := TB) o) ha hb).imp fun σ H Q hh => seq2 hh fun dx dy x y H2 env2 A2 L h1 h2 es2 nd2 tb2 c => by
    obtain ⟨ov, e, c'⟩ := of_end c
    exact ⟨dx, dy, ov, h1, h2, e, Cont.vr es2 nd2 c'⟩
theorem de_neg {f : M Pn} (ha : DP fa TB W X a f) : DE fa TB W X (.UnaryOp .USub a pos) (f >>= fun p => rd p >>= fun x => M.of (match x with | .int i => some (.val (.int (-i))) | _ => none)) :=
  (pe_un un_neg ha).imp fun σ H Q hh => seq0 hh fun p x H1 env1 A1 B1 es1 r1 nd1 tb1 c1 => by
    obtain ⟨dx, h1, _, c3⟩ := rd_ok es1 r1 c1
    obtain ⟨ov, e, c'⟩ := of_end c3
    split at e
    · cases e
      exact ⟨_, h1.int, (Cont.vr es1 nd1 c').val rfl⟩
    · cases e

/-! ### comparisons -/
def rCmpD (K : PySem.W.Frag) (o : CmpOp) : R2 := fun x y H Q => ∃ dx dy r, RdR K H dx x ∧ RdR K H dy y ∧ cmpD o dx dy = some r ∧ Q (.bl r) H
theorem vbl {i j : Int} : decide (V.int i = V.int j) = decide (i = j) := by
  by_cases h : i = j
  · subst h; simp
  · have : ¬ V.int i = V.int j := fun z => h (V.int.inj z)
    rw [decide_eq_false h, decide_eq_false this]
theorem vbs {i j : Str} : decide (V.str i = V.str j) = decide (i = j) := by
  by_cases h : i = j
  · subst h; simp
  · have : ¬ V.str i = V.str j := fun z => h (V.str.inj z)
    rw [decide_eq_false h, decide_eq_false this]
theorem isN_v {K : PySem.W.Frag} {H : Hp} {dx : PyData} {x : V} (hx : RdR K H dx x) : decide (x = V.non) = isN dx := by
  cases dx with
  | none => obtain rfl := hx.non; rfl
  | bool b => obtain rfl := hx.bool; rfl
  | int b => obtain rfl := hx.int; rfl
  | str b => obtain rfl := hx.str; rfl
  | tuple ds => obtain ⟨a, vs, rfl, _⟩ := hx.tup; rfl
  | list ds => obtain ⟨a, vs, rfl, _⟩ := hx; rfl
  | dict ds => exact (show False from hx).elim
theorem op_cmp (hu : X.A.units + 64 < cLine) (o : CmpOp) : OpR X (compareOp o) (rCmpD X.K o) := by
  intro pins s σ H x y v u Q I rx ry h
  obtain ⟨dx, dy, ov, hx, hy, hb, q⟩ := h
  unfold cmpD at hb
  split at hb
  · obtain rfl := hx.int; obtain rfl := hy.int; cases hb
    exact op_eq pins s σ H _ _ v u Q I rx ry ⟨rfl, by rw [vbl]; exact q⟩
  · obtain rfl := hx.str; obtain rfl := hy.str; cases hb
    exact op_eq pins s σ H _ _ v u Q I rx ry ⟨rfl, by rw [vbs]; exact q⟩
  · obtain rfl := hx.int; obtain rfl := hy.int; cases hb
    exact op_ne pins s σ H _ _ v u Q I rx ry ⟨rfl, by rw [vbl]; exact q⟩
  · obtain rfl := hx.str; obtain rfl := hy.str; cases hb
    exact op_ne pins s σ H _ _ v u Q I rx ry ⟨rfl, by rw [vbs]; exact q⟩
  · split at hb
    · rename_i hc; cases hb
      exact op_eqD hu pins s σ H _ _ v u Q I rx ry ⟨_, _, hx.dp, hy.dp, hc.1, hc.2, q⟩
    · cases hb
  · split at hb
    · rename_i hc; cases hb
      exact op_neD hu pins s σ H _ _ v u Q I rx ry ⟨_, _, hx.dp, hy.dp, hc.1, hc.2, q⟩
    · cases hb
  · obtain rfl := hx.int; obtain rfl := hy.int; cases hb
    exact op_lt pins s σ H _ _ v u Q I rx ry ⟨_, _, rfl, rfl, q⟩
  · obtain rfl := hx.int; obtain rfl := hy.int; cases hb
    exact op_le pins s σ H _ _ v u Q I rx ry ⟨_, _, rfl, rfl, q⟩
  · obtain rfl := hx.int; obtain rfl := hy.int; cases hb
    exact op_gt pins s σ H _ _ v u Q I rx ry ⟨_, _, rfl, rfl, q⟩
  · obtain rfl := hx.int; obtain rfl := hy.int; cases hb
    exact op_ge pins s σ H _ _ v u Q I rx ry ⟨_, _, rfl, rfl, q⟩
  · obtain rfl := hy.non
    cases hb
    refine op_isN pins s σ H _ _ v u Q I rx ry ⟨rfl, ?_⟩
    rw [isN_v hx]; exact q
  · obtain rfl := hy.non
    cases hb
    refine op_notN pins s σ H _ _ v u Q I rx ry ⟨rfl, ?_⟩
    rw [isN_v hx]; exact q
  · cases hb
theorem de_cmp {c : CmpOp} {f g : M Pn} (hu : X.A.units + 64 < cLine) (ha : DP fa TB W X a f) (hb : DP fa TB W X b g) (hm : behindInMarks c b = false) :
    DE fa TB W X (.Compare a [c] [b] pos) (f >>= fun p => g >>= fun q => rd p >>= fun x => rd q >>= fun y => M.of (cmpD c x y) >>= fun r => pure (.val (.bool r))) :=
  (pe_cmpR (op_cmp hu c) ha hb hm).imp fun σ H Q hh => seq2 hh fun dx dy x y H2 env2 A2 L h1 h2 es2 nd2 tb2 cc => by
    obtain ⟨r, e, c'⟩ := of_ok cc
    exact ⟨dx, dy, r, h1, h2, e, (Cont.vr es2 nd2 c').val rfl⟩
/-- a test from its value -/
theorem Cont.bl {fa : List Addr} {K : PySem.W.Frag} {TB : List (Addr × Str)} {W : Exc → Hp → Prop} {σ : L2.St} {A L : List Addr} {H : Hp} {r : Bool} {env : DEnv} {Q : Bool → Hp → Prop} (es : ES fa K H env σ A) (nd : (A ++ L).Nodup) (c : Cont fa K TB W rB σ (A ++ L) H (.ok r env) Q) : Q r H :=
  c r H A [] (Step.refl _ _) es ⟨rfl, rfl⟩ (by simpa using (List.nodup_append.mp nd).1) fun a ha => .inl (by simp at ha; simp [ha])
theorem seq2T {f g : M Pn} {k : PyData → PyData → M Bool} {σ : L2.St} {H : Hp} {Q : Bool → Hp → Prop} {R : V → V → Hp → Prop}
    (hh : rdg fa X.K TB W rB (f >>= fun p => g >>= fun q => rd p >>= fun x => rd q >>= fun y => k x y) σ H Q)
    (fin : ∀ dx dy x y H2 env2 A2 L, RdR X.K H2 dx x → RdR X.K H2 dy y → ES fa X.K H2 env2 σ A2 → (A2 ++ L).Nodup → LamX.Tabs TB H2 → Cont fa X.K TB W rB σ (A2 ++ L) H2 (k dx dy env2) Q → R x y H2) :
    rdg fa X.K TB W (rP fa X.K) f σ H fun x H1 => rdg fa X.K TB W (rP fa X.K) g σ H1 fun y H2 => R x y H2 :=
  seq0 hh fun p x H1 env1 A1 B1 es1 r1 nd1 tb1 c1 => seqT es1 nd1 tb1 (rP.lsts r1) c1 fun q y H2 env2 A2 B2 s2 es2 r2 nd2 k2 tb2 c2 => by
    obtain ⟨dx, h1, _, c3⟩ := rd_ok es2 (r1.mono s2.le k2) c2
    obtain ⟨dy, h2, _, c4⟩ := rd_ok es2 r2 c3
    exact fin dx dy x y H2 env2 A2 _ h1 h2 es2 nd2 tb2 c4
end
end DL
namespace DL
open PySem PySem.Spec PyProof.Rows L2

/-! ### the monad's laws -/
theorem bind_assoc {α β γ : Type} (m : M α) (f : α → M β) (g : β → M γ) : ((m >>= f) >>= g) = (m >>= fun a => f a >>= g) := by
  funext e
  simp only [M.bind_def]
  cases m e <;> rfl
theorem pure_bind {α β : Type} (a : α) (f : α → M β) : ((pure a : M α) >>= f) = f a := rfl
theorem of_bind_pure {α β : Type} (o : Option α) (f : α → β) : (M.of o >>= fun a => pure (f a)) = M.of (o.map f) := by
  funext e
  cases o <;> rfl
theorem of_bind_of {α β : Type} (o : Option α) (f : α → Option β) : (M.of o >>= fun a => M.of (f a)) = M.of (o.bind f) := by
  funext e
  cases o <;> rfl
section
variable {fa : List Addr} {TB : List (Addr × Str)} {W : Exc → Hp → Prop} {X : Cx} {e a b c : Expr} {es rest : List Expr} {pos p p2 : Pos}

/-! ### tests -/
theorem dt_cmp {c : CmpOp} {f g : M Pn} (hu : X.A.units + 64 < cLine) (ha : DP fa TB W X a f) (hb : DP fa TB W X b g) (hm : behindInMarks c b = false) :
    DT fa TB W X (.Compare a [c] [b] pos) (f >>= fun p => g >>= fun q => rd p >>= fun x => rd q >>= fun y => M.of (cmpD c x y)) :=
  (pt_cmpR (op_cmp hu c) ha hb hm).imp fun σ H Q hh => seq2T hh fun dx dy x y H2 env2 A2 L h1 h2 es2 nd2 tb2 cc => by
    obtain ⟨r, e, c'⟩ := of_end cc
    exact ⟨dx, dy, r, h1, h2, e, r, rfl, Cont.bl es2 nd2 c'⟩
theorem rdr_tru {K : PySem.W.Frag} {H : Hp} {d : PyData} {v : V} {k : Bool} (r : RdR K H d v) (h : truD d = some k) : TruV K v H k := by
  cases d with
  | none => obtain rfl := r.non; simp only [truD, Option.some.injEq] at h; exact h.symm
  | bool b => obtain rfl := r.bool; simp only [truD, Option.some.injEq] at h; exact h.symm
  | int b => obtain rfl := r.int; simp only [truD, Option.some.injEq] at h; exact h.symm
  | str b => simp [truD] at h
  | tuple ds =>
    obtain ⟨a, vs, rfl, h1, h2⟩ := r.tup
    simp only [truD, Option.some.injEq] at h
    refine .inr (.inl ⟨vs, h1, ?_⟩)
    have := h2.len
    subst h
    cases ds <;> cases vs <;> simp_all
  | list ds =>
    obtain ⟨a, vs, rfl, h1, h2⟩ := r
    simp only [truD, Option.some.injEq] at h
    refine .inl ⟨vs, h1.sq, ?_⟩
    have := h2.len
    subst h
    cases ds <;> cases vs <;> simp_all
  | dict ds => simp [truD] at h
theorem dt_val {f : M Pn} (ha : DP fa TB W X e f) (he : ∀ whole, isTrue e X.env whole = (do let v ← whole; standAt e.pos; holding [v] (truthy v))) : DT fa TB W X e (f >>= fun p => rd p >>= fun x => M.of (truD x)) :=
  (pt_truth ha he).imp fun σ H Q hh => seq0 hh fun p x H1 env1 A1 B1 es1 r1 nd1 tb1 c1 => by
    obtain ⟨d, h1, _, c2⟩ := rd_ok es1 r1 c1
    obtain ⟨k, e1, c3⟩ := of_end c2
    exact ⟨k, rdr_tru h1 e1, Cont.bl es1 nd1 c3⟩
theorem rB_eq {α : Type} {σ : L2.St} {H : Hp} {a b : α} {B : List Addr} (h : rB σ H a b B) : a = b ∧ B = [] := h
theorem dt_not {f : M Bool} (ha : DT fa TB W X a f) : DT fa TB W X (.UnaryOp .Not a pos) (f >>= fun b => pure (!b)) :=
  (pt_not ha).imp fun σ H Q hh => seq0 hh fun b b' H1 env1 A1 B1 es1 r1 nd1 tb1 c1 => by
    obtain ⟨rfl, rfl⟩ := rB_eq r1
    exact Cont.bl es1 nd1 c1
/-- and, or, whatever 'whole' is -/
abbrev DW (fa : List Addr) (TB : List (Addr × Str)) (W : Exc → Hp → Prop) (X : Cx) (e : Expr) (f : M Bool) : Prop := PW X e (rdg fa X.K TB W rB f)
theorem _root_.L2.PW.imp {X : Cx} {e : Expr} {t t' : TT} (h : PW X e t) (i : ∀ σ H Q, t' σ H Q → t σ H Q) : PW X e t' := ⟨fun wh pins s σ H Q I q => h.run wh pins s σ H Q I (i σ H Q q)⟩
theorem Cont.back {α β : Type} {rep : RepT α β} {fa : List Addr} {K : PySem.W.Frag} {σ : L2.St} {A : List Addr} {H : Hp} {f : M α} {env : DEnv} {Q : β → Hp → Prop} (es : ES fa K H env σ A) (nd : A.Nodup) (tb : LamX.Tabs TB H) (c : Cont fa K TB W rep σ A H (f env) Q) : rdg fa K TB W rep f σ H Q :=
  ⟨env, A, es, nd, tb, c⟩
theorem dw_and {f g : M Bool} (ha : DT fa TB W X a f) (hb : DW fa TB W X (.BoolOp .And (b :: rest) pos) g) : DW fa TB W X (.BoolOp .And (a :: b :: rest) pos) (f >>= fun x => if x then g else pure false) :=
  (pw_and ha hb).imp fun σ H Q hh => seq0 hh fun b b' H1 env1 A1 B1 es1 r1 nd1 tb1 c1 => by
    obtain ⟨rfl, rfl⟩ := rB_eq r1
    rw [List.append_nil] at c1 nd1
    cases b with
    | true => exact Cont.back es1 nd1 tb1 c1
    | false => exact Cont.bl (L := []) es1 (by simpa using nd1) (by rw [List.append_nil]; exact c1)
theorem dw_or {f g : M Bool} (ha : DT fa TB W X a f) (hb : DW fa TB W X (.BoolOp .Or (b :: rest) pos) g) : DW fa TB W X (.BoolOp .Or (a :: b :: rest) pos) (f >>= fun x => if x then pure true else g) :=
  (pw_or ha hb).imp fun σ H Q hh => seq0 hh fun b b' H1 env1 A1 B1 es1 r1 nd1 tb1 c1 => by
    obtain ⟨rfl, rfl⟩ := rB_eq r1
    rw [List.append_nil] at c1 nd1
    cases b with
    | false => exact Cont.back es1 nd1 tb1 c1
    | true => exact Cont.bl (L := []) es1 (by simpa using nd1) (by rw [List.append_nil]; exact c1)
theorem dw_and1 {f : M Bool} (ha : DT fa TB W X a f) : DW fa TB W X (.BoolOp .And [a] pos) f := pw_and1 ha
theorem dw_or1 {f : M Bool} (ha : DT fa TB W X a f) : DW fa TB W X (.BoolOp .Or [a] pos) f := pw_or1 ha
/-! ### as values -/
theorem de_not {f : M Pn} (ha : DP fa TB W X a f) : DE fa TB W X (.UnaryOp .Not a pos) (f >>= fun p => rd p >>= fun x => M.of (truD x) >>= fun b => pure (.val (.bool (!b)))) := by
  refine ⟨fun pins s σ H Q I hh => ?_⟩
  have h0 : rdg fa X.K TB W (rP fa X.K) f σ H (fun v H1 => ∃ k, TruV X.K v H1 k ∧ Q (.bl (!k)) H1) := seq0 hh fun p x H1 env1 A1 B1 es1 r1 nd1 tb1 c1 => by
    obtain ⟨d, h1, _, c2⟩ := rd_ok es1 r1 c1
    obtain ⟨k, e1, c3⟩ := of_ok c2
    exact ⟨k, rdr_tru h1 e1, (Cont.vr es1 nd1 c3).val rfl⟩
  exact UnaryOp_ (thn (ha.run pins s σ H _ I h0) fun v s1 ⟨x, H1, I1, r1, k, q1, q2⟩ => not_of (thn (tru_ok pins s1 σ H1 x v (fun b H2 => Q (.bl (!b)) H2) I1 r1 ⟨k, q1, q2⟩) fun b s2 ⟨H2, I2, q⟩ => ⟨.bl (!b), H2, I2, rfl, q⟩))
/-- a value that is a truth value -/
theorem orep_bool {fa : List Addr} {K : PySem.W.Frag} {H : Hp} {b : Bool} {v : V} {B : List Addr} (r : ORep fa K H (.val (.bool b)) v B) : v = .bl b ∧ B = [] := by
  simp only [ORep, Rep] at r
  exact ⟨r.2, r.1⟩
theorem de_and {f g : M O} (ha : DE fa TB W X a f) (hb : DE fa TB W X (.BoolOp .And (b :: rest) pos) g) :
    DE fa TB W X (.BoolOp .And (a :: b :: rest) pos) (f >>= fun o => match o with | .val (.bool true) => g | .val (.bool false) => pure (.val (.bool false)) | _ => fun _ => .stuck) :=
  (pe_and ha hb).imp fun σ H Q hh => seq0 hh fun o v H1 env1 A1 B1 es1 r1 nd1 tb1 c1 => by
    split at c1
    · obtain ⟨rfl, rfl⟩ := orep_bool r1
      rw [List.append_nil] at c1 nd1
      exact ⟨true, rfl, Cont.back es1 nd1 tb1 c1⟩
    · obtain ⟨rfl, rfl⟩ := orep_bool r1
      exact ⟨false, rfl, (Cont.vr es1 nd1 c1).val rfl⟩
    · exact c1.elim
theorem de_or {f g : M O} (ha : DE fa TB W X a f) (hb : DE fa TB W X (.BoolOp .Or (b :: rest) pos) g) :
    DE fa TB W X (.BoolOp .Or (a :: b :: rest) pos) (f >>= fun o => match o with | .val (.bool false) => g | .val (.bool true) => pure (.val (.bool true)) | _ => fun _ => .stuck) :=
  (pe_or ha hb).imp fun σ H Q hh => seq0 hh fun o v H1 env1 A1 B1 es1 r1 nd1 tb1 c1 => by
    split at c1
    · obtain ⟨rfl, rfl⟩ := orep_bool r1
      rw [List.append_nil] at c1 nd1
      exact ⟨false, rfl, Cont.back es1 nd1 tb1 c1⟩
    · obtain ⟨rfl, rfl⟩ := orep_bool r1
      exact ⟨true, rfl, (Cont.vr es1 nd1 c1).val rfl⟩
    · exact c1.elim
theorem de_one {op : BoolOp} {f : M O} (ha : DE fa TB W X a f) : DE fa TB W X (.BoolOp op [a] pos) f := pe_one ha
theorem de_ite {f : M Bool} {g h : M O} (hc : DT fa TB W X c f) (ha : DE fa TB W X a g) (hb : DE fa TB W X b h) : DE fa TB W X (.IfExp c a b pos) (f >>= fun t => if t then g else h) :=
  (pe_ifExp hc ha hb).imp fun σ H Q hh => seq0 hh fun t t' H1 env1 A1 B1 es1 r1 nd1 tb1 c1 => by
    obtain ⟨rfl, rfl⟩ := rB_eq r1
    rw [List.append_nil] at c1 nd1
    cases t with
    | true => exact Cont.back es1 nd1 tb1 c1
    | false => exact Cont.back es1 nd1 tb1 c1
/-- a < b < c -/
theorem de_cmp2 {c1 c2 : CmpOp} {f g h : M Pn} (hu : X.A.units + 64 < cLine) (ha : DP fa TB W X a f) (hb : DP fa TB W X b g) (hc : DP fa TB W X c h) (hm : lastMarks [c1, c2] [b, c] = false) :
    DE fa TB W X (.Compare a [c1, c2] [b, c] pos) (f >>= fun p => g >>= fun q => rd p >>= fun x => rd q >>= fun y => M.of (cmpD c1 x y) >>= fun r =>
      if r then h >>= fun u => rd q >>= fun y => rd u >>= fun z => M.of (cmpD c2 y z) >>= fun r => pure (.val (.bool r)) else pure (.val (.bool false))) :=
  (pe_chain (op_cmp hu c1) (op_cmp hu c2) ha hb hc hm).imp fun σ H Q hh =>
    seq0 hh fun p x H1 env1 A1 B1 es1 r1 nd1 tb1 cc1 => seqT es1 nd1 tb1 (rP.lsts r1) cc1 fun q y H2 env2 A2 B2 s2 es2 r2 nd2 k2 tb2 cc2 => by
      obtain ⟨dx, h1, _, c3⟩ := rd_ok es2 (r1.mono s2.le k2) cc2
      obtain ⟨dy, h2, _, c4⟩ := rd_ok es2 r2 c3
      obtain ⟨r, e, c5⟩ := of_ok c4
      refine ⟨dx, dy, r, h1, h2, e, r, rfl, ?_⟩
      cases r with
      | false => exact (Cont.vr es2 nd2 c5).val rfl
      | true =>
        rw [if_pos rfl]
        have lt : ∀ x ∈ B1 ++ B2, ∃ xs, H2 x = some (.lst xs) := fun x hx => by
          rcases List.mem_append.mp hx with hx | hx
          · exact (r1.mono s2.le k2).lsts x hx
          · exact r2.lsts x hx
        refine seqT es2 nd2 tb2 lt c5 fun u w H3 env3 A3 B3 s3 es3 r3 nd3 k3 tb3 c6 => ?_
        obtain ⟨dy', h2', _, c7⟩ := rd_ok es3 (r2.mono s3.le fun a ha => k3 a (List.mem_append_right _ ha)) c6
        obtain ⟨dz, h3, _, c8⟩ := rd_ok es3 r3 c7
        obtain ⟨r', e', c9⟩ := of_ok c8
        exact ⟨dy', dz, r', h2', h3, e', (Cont.vr es3 nd3 c9).val rfl⟩
theorem dt_cmp2 {c1 c2 : CmpOp} {f g h : M Pn} (hu : X.A.units + 64 < cLine) (ha : DP fa TB W X a f) (hb : DP fa TB W X b g) (hc : DP fa TB W X c h) (hm : lastMarks [c1, c2] [b, c] = false) :
    DT fa TB W X (.Compare a [c1, c2] [b, c] pos) (f >>= fun p => g >>= fun q => rd p >>= fun x => rd q >>= fun y => M.of (cmpD c1 x y) >>= fun r =>
      if r then h >>= fun u => rd q >>= fun y => rd u >>= fun z => M.of (cmpD c2 y z) else pure false) :=
  (pt_chain (op_cmp hu c1) (op_cmp hu c2) ha hb hc hm).imp fun σ H Q hh =>
    seq0 hh fun p x H1 env1 A1 B1 es1 r1 nd1 tb1 cc1 => seqT es1 nd1 tb1 (rP.lsts r1) cc1 fun q y H2 env2 A2 B2 s2 es2 r2 nd2 k2 tb2 cc2 => by
      obtain ⟨dx, h1, _, c3⟩ := rd_ok es2 (r1.mono s2.le k2) cc2
      obtain ⟨dy, h2, _, c4⟩ := rd_ok es2 r2 c3
      obtain ⟨r, e, c5⟩ := of_ok c4
      refine ⟨dx, dy, r, h1, h2, e, r, rfl, ?_⟩
      cases r with
      | false => exact ⟨false, rfl, Cont.bl es2 nd2 c5⟩
      | true =>
        rw [if_pos rfl]
        have lt : ∀ x ∈ B1 ++ B2, ∃ xs, H2 x = some (.lst xs) := fun x hx => by
          rcases List.mem_append.mp hx with hx | hx
          · exact (r1.mono s2.le k2).lsts x hx
          · exact r2.lsts x hx
        refine seqT es2 nd2 tb2 lt c5 fun u w H3 env3 A3 B3 s3 es3 r3 nd3 k3 tb3 c6 => ?_
        obtain ⟨dy', h2', _, c7⟩ := rd_ok es3 (r2.mono s3.le fun a ha => k3 a (List.mem_append_right _ ha)) c6
        obtain ⟨dz, h3, _, c8⟩ := rd_ok es3 r3 c7
        obtain ⟨r', e', c9⟩ := of_end c8
        exact ⟨dy', dz, r', h2', h3, e', r', rfl, Cont.bl es3 nd3 c9⟩

/-! ### items, slices -/
theorem atI_rep {K : PySem.W.Frag} {H : Hp} {ds : List PyData} {vs : List V} {i : Int} {d : PyData} (r : RepAll K H ds vs) (h : L2.atI ds i = some d) : ∃ v, L2.atI vs i = some v ∧ Rep K H d v := by
  unfold L2.atI at h ⊢
  rw [r.len]
  cases e : L2.ixN ds.length i with
  | none => rw [e] at h; cases h
  | some j =>
    rw [e] at h
    exact r.get h
def notSlice : Expr → Bool
  | .Slice .. => false
  | _ => true
theorem subscripted_plain {b : Expr} (h : notSlice b = true) : PlainIx b := by
  cases b <;> first | (intro o i; rfl) | simp [notSlice] at h
theorem de_idx {f g : M Pn} (ha : DP fa TB W X a f) (hb : DP fa TB W X b g) (hs : notSlice b = true) :
    DE fa TB W X (.Subscript a b pos) (f >>= fun p => g >>= fun q => rd p >>= fun x => rd q >>= fun y => M.of (getD' x y) >>= fun d => pure (.val d)) :=
  (pe_ix ix_seq ha hb (subscripted_plain hs)).imp fun σ H Q hh => seq2 hh fun dx dy x y H2 env2 A2 L h1 h2 es2 nd2 tb2 cc => by
    obtain ⟨d, e, c'⟩ := of_ok cc
    unfold getD' at e
    split at e
    · obtain ⟨a1, vs, rfl, h3, h4⟩ := h1
      obtain rfl := h2.int
      obtain ⟨v, e1, r1⟩ := atI_rep h4 e
      exact .inl ⟨_, _, _, _, rfl, rfl, h3.sq, e1, (Cont.vr es2 nd2 c').val r1⟩
    · obtain ⟨a1, vs, rfl, h3, h4⟩ := h1.tup
      obtain rfl := h2.int
      obtain ⟨v, e1, r1⟩ := atI_rep h4 e
      exact .inr (.inl ⟨_, _, _, _, rfl, rfl, h3, e1, (Cont.vr es2 nd2 c').val r1⟩)
    · cases e
/-- a part of a slice -/
abbrev DO (fa : List Addr) (TB : List (Addr × Str)) (W : Exc → Hp → Prop) (X : Cx) (e : Option Expr) (f : M (Option Int)) : Prop := PO X e (rdg fa X.K TB W rB f)
theorem _root_.L2.PO.imp {X : Cx} {e : Option Expr} {t t' : TO} (h : PO X e t) (i : ∀ σ H Q, t' σ H Q → t σ H Q) : PO X e t' := ⟨fun pins s σ H Q I q => h.run pins s σ H Q I (i σ H Q q)⟩
theorem do_none : DO fa TB W X none (pure none) := po_none.imp fun σ H Q ⟨env, A, es, nd, tb, c⟩ => c none H A [] (Step.refl _ _) es ⟨rfl, rfl⟩ (by simpa using nd) (by simpa using Fresh.self _ _)
theorem do_some {f : M Pn} (h : DP fa TB W X e f) : DO fa TB W X (some e) (f >>= fun p => rd p >>= fun x => M.of (asInt x) >>= fun i => pure (some i)) := (po_some h).imp fun σ H Q hh =>
  seq0 hh fun p x H1 env1 A1 B1 es1 r1 nd1 tb1 c1 => by
    obtain ⟨d, h1, _, c2⟩ := rd_ok es1 r1 c1
    obtain ⟨i, e1, c3⟩ := of_ok c2
    unfold asInt at e1
    split at e1
    · cases e1
      exact ⟨_, h1.int, c3 _ H1 A1 [] (Step.refl _ _) es1 ⟨rfl, rfl⟩ (by simpa using (List.nodup_append.mp nd1).1) fun a ha => .inl (by simp at ha; simp [ha])⟩
    · cases e1
theorem cut_rep {K : PySem.W.Frag} {H : Hp} {ds : List PyData} {vs : List V} (lo hi : Option Int) (r : RepAll K H ds vs) : RepAll K H (cutL ds lo hi) (cutV vs lo hi) := by
  unfold cutL cutV
  rw [r.len]
  exact (r.drop _).take _
def rSlL' : V → Option Int → Option Int → Hp → VK → Prop := fun x lo hi H Q => ∃ a xs, x = .ref a ∧ Rd H a (.lst xs) ∧ ∀ p, H p = none → Q (.ref p) (upd H p (.lst (cutV xs lo hi)))
def rCut (fa : List Addr) (TB : List (Addr × Str)) (K : PySem.W.Frag) : V → Option Int → Option Int → Hp → VK → Prop := fun x lo hi H Q => ∃ d ov, RdR K H d x ∧ cutD d lo hi = some ov ∧ VR fa K TB ov H Q
theorem sl_cut : SlR X (rCut fa TB X.K) := by
  intro pins s σ H x v vl vu lo hi sl Q I rx hs pl pu h
  obtain ⟨d, ov, hx, e, q⟩ := h
  unfold cutD at e
  split at e
  · cases e
    obtain ⟨a1, vs, rfl, h1, r1⟩ := hx
    exact sl_list pins s σ H _ v vl vu lo hi sl Q I rx hs pl pu ⟨a1, vs, rfl, h1.sq, q.lst (cut_rep lo hi r1)⟩
  · cases e
    obtain ⟨a1, vs, rfl, h1, r1⟩ := hx.tup
    refine sl_tupA pins s σ H _ v vl vu lo hi sl Q I rx hs pl pu ⟨a1, vs, rfl, h1, fun z => ?_, fun _ => q.tup (cut_rep lo hi r1)⟩
    have : cutV vs lo hi = vs := by
      unfold cutV
      rw [z.1, z.2]
      simp
    refine q.val ?_
    simp only [Rep]
    exact ⟨a1, vs, rfl, h1, by have := cut_rep lo hi r1; rwa [‹cutV vs lo hi = vs›] at this⟩
  · cases e
theorem de_cut {f : M Pn} {g h : M (Option Int)} {lo hi : Option Expr} (ha : DP fa TB W X a f) (hl : DO fa TB W X lo g) (hh : DO fa TB W X hi h) :
    DE fa TB W X (.Subscript a (.Slice lo hi none p2) pos) (f >>= fun p => g >>= fun l => h >>= fun u => rd p >>= fun x => M.of (cutD x l u)) :=
  (pe_slice (sl_cut (fa := fa) (TB := TB)) ha hl hh).imp fun σ H Q hh => seq0 hh fun p x H1 env1 A1 B1 es1 r1 nd1 tb1 c1 =>
    seqT es1 nd1 tb1 (rP.lsts r1) c1 fun l l' H2 env2 A2 B2 s2 es2 r2 nd2 k2 tb2 c2 => by
      obtain ⟨rfl, rfl⟩ := rB_eq r2
      rw [List.append_nil] at nd2 c2
      have r1' := r1.mono s2.le k2
      refine seqT es2 nd2 tb2 r1'.lsts c2 fun u u' H3 env3 A3 B3 s3 es3 r3 nd3 k3 tb3 c3 => ?_
      obtain ⟨rfl, rfl⟩ := rB_eq r3
      rw [List.append_nil] at nd3 c3
      obtain ⟨d, h1, _, c4⟩ := rd_ok es3 (r1'.mono s3.le k3) c3
      obtain ⟨ov, e, c5⟩ := of_end c4
      exact ⟨d, ov, h1, e, Cont.vr es3 nd3 c5⟩
end
end DL
namespace DL
open PySem PySem.Spec PyProof.Rows L2
section
variable {fa : List Addr} {TB : List (Addr × Str)} {W : Exc → Hp → Prop} {X : Cx} {e a b : Expr} {es : List Expr} {pos p p2 : Pos}

/-! ### built-in functions -/
def Blt.val : Blt → Value
  | .len => .builtin "len" | .abs => .builtin "abs" | .int => .type "int" | .sum => .builtin "sum" | .all => .builtin "all" | .any => .builtin "any" | .tuple => .type "tuple" | .list => .type "list"
  | .str => .type "str" | .max2 => .builtin "max" | .min2 => .builtin "min" | .repr => .builtin "repr"
theorem Blt.boot (f : Blt) : bootBuiltins f.name = some f.val := by cases f <;> decide +kernel
def rBlt (fa : List Addr) (TB : List (Addr × Str)) (K : PySem.W.Frag) (f : Blt) : List V → Hp → VK → Prop := fun xs H Q => ∃ ds ov, Paired (fun d v => RdR K H d v) ds xs ∧ bltD f ds = some ov ∧ VR fa K TB ov H Q
theorem ints_vs {K : PySem.W.Frag} {H : Hp} : ∀ {ds : List PyData} {vs : List V} {ns : List Int}, RepAll K H ds vs → asInts ds = some ns → vs = ns.map V.int
  | [], vs, ns, r, e => by
    simp only [asInts, Option.some.injEq] at e
    simp only [RepAll] at r
    subst e; subst r; rfl
  | .int i :: ds, vs, ns, r, e => by
    simp only [asInts, Option.map_eq_some_iff] at e
    obtain ⟨l, e1, rfl⟩ := e
    simp only [RepAll, Rep] at r
    obtain ⟨v, q, e2, e3, r2⟩ := r
    subst e2 e3
    simp [ints_vs r2 e1]
  | .none :: ds, vs, ns, r, e => by simp [asInts] at e
  | .bool _ :: ds, vs, ns, r, e => by simp [asInts] at e
  | .str _ :: ds, vs, ns, r, e => by simp [asInts] at e
  | .list _ :: ds, vs, ns, r, e => by simp [asInts] at e
  | .tuple _ :: ds, vs, ns, r, e => by simp [asInts] at e
  | .dict _ :: ds, vs, ns, r, e => by simp [asInts] at e
theorem bools_vs {K : PySem.W.Frag} {H : Hp} : ∀ {ds : List PyData} {vs : List V} {ns : List Bool}, RepAll K H ds vs → asBools ds = some ns → vs = ns.map V.bl
  | [], vs, ns, r, e => by
    simp only [asBools, Option.some.injEq] at e
    simp only [RepAll] at r
    subst e; subst r; rfl
  | .bool i :: ds, vs, ns, r, e => by
    simp only [asBools, Option.map_eq_some_iff] at e
    obtain ⟨l, e1, rfl⟩ := e
    simp only [RepAll, Rep] at r
    obtain ⟨v, q, e2, e3, r2⟩ := r
    subst e2 e3
    simp [bools_vs r2 e1]
  | .none :: ds, vs, ns, r, e => by simp [asBools] at e
  | .int _ :: ds, vs, ns, r, e => by simp [asBools] at e
  | .str _ :: ds, vs, ns, r, e => by simp [asBools] at e
  | .list _ :: ds, vs, ns, r, e => by simp [asBools] at e
  | .tuple _ :: ds, vs, ns, r, e => by simp [asBools] at e
  | .dict _ :: ds, vs, ns, r, e => by simp [asBools] at e
theorem paired_one {α β : Type} {F : α → β → Prop} {a : α} {xs : List β} (h : Paired F [a] xs) : ∃ x, xs = [x] ∧ F a x := by
  cases h with
  | cons r t => cases t; exact ⟨_, rfl, r⟩
theorem paired_two {α β : Type} {F : α → β → Prop} {a b : α} {xs : List β} (h : Paired F [a, b] xs) : ∃ x y, xs = [x, y] ∧ F a x ∧ F b y := by
  cases h with
  | cons r t =>
    obtain ⟨y, rfl, q⟩ := paired_one t
    exact ⟨_, _, rfl, r, q⟩
theorem call_blt (hc : X.calm = true) (hg : X.A.guards = some []) (hu : X.A.units + 64 < cLine) (f : Blt) : CallR X f.val (rBlt fa TB X.K f) := by
  intro pins s σ H xs us Q I rs h
  obtain ⟨ds, ov, hp, e, q⟩ := h
  unfold bltD at e
  split at e
  · obtain ⟨x, rfl, a1, vs, rfl, h1, r1⟩ := paired_one hp
    split at e
    · cases e
      exact call_len_seq pins s σ H _ us Q I rs ⟨a1, vs, rfl, .inl h1.sq, by rw [r1.len]; exact q.val rfl⟩
    · cases e
  · obtain ⟨x, rfl, h0⟩ := paired_one hp
    obtain ⟨a1, vs, rfl, h1, r1⟩ := h0.tup
    split at e
    · cases e
      exact call_len_seq pins s σ H _ us Q I rs ⟨a1, vs, rfl, .inr h1, by rw [r1.len]; exact q.val rfl⟩
    · cases e
  · obtain ⟨x, rfl, h0⟩ := paired_one hp
    obtain rfl := h0.str
    split at e
    · rename_i hz; cases e
      exact call_len_str pins s σ H _ us Q I rs ⟨_, rfl, hz, q.val rfl⟩
    · cases e
  · obtain ⟨x, rfl, h0⟩ := paired_one hp
    obtain rfl := h0.int
    cases e
    exact call_abs pins s σ H _ us Q I rs ⟨_, rfl, q.val rfl⟩
  · obtain ⟨x, rfl, h0⟩ := paired_one hp
    obtain rfl := h0.int
    cases e
    exact call_int1 pins s σ H _ us Q I rs (.inl ⟨_, rfl, q.val rfl⟩)
  · obtain ⟨x, rfl, h0⟩ := paired_one hp
    obtain rfl := h0.bool
    cases e
    exact call_int1 pins s σ H _ us Q I rs (.inr ⟨_, rfl, q.val rfl⟩)
  · obtain ⟨x, rfl, a1, vs, rfl, h1, r1⟩ := paired_one hp
    simp only [Option.map_eq_some_iff] at e
    obtain ⟨ns, e1, rfl⟩ := e
    obtain rfl := ints_vs r1 e1
    exact cr_sum hc pins s σ H _ us Q I rs ⟨a1, ns, rfl, h1.sq, q.val rfl⟩
  · obtain ⟨x, rfl, a1, vs, rfl, h1, r1⟩ := paired_one hp
    simp only [Option.map_eq_some_iff] at e
    obtain ⟨ns, e1, rfl⟩ := e
    obtain rfl := bools_vs r1 e1
    exact cr_all hc pins s σ H _ us Q I rs ⟨a1, ns, rfl, h1.sq, q.val rfl⟩
  · obtain ⟨x, rfl, a1, vs, rfl, h1, r1⟩ := paired_one hp
    simp only [Option.map_eq_some_iff] at e
    obtain ⟨ns, e1, rfl⟩ := e
    obtain rfl := bools_vs r1 e1
    exact cr_any hc pins s σ H _ us Q I rs ⟨a1, ns, rfl, h1.sq, q.val rfl⟩
  · obtain ⟨x, rfl, a1, vs, rfl, h1, r1⟩ := paired_one hp
    cases e
    exact call_tuple_of pins s σ H _ us Q I rs ⟨a1, vs, rfl, .inl ⟨h1.sq, q.tup r1⟩⟩
  · obtain ⟨x, rfl, h0⟩ := paired_one hp
    obtain ⟨a1, vs, rfl, h1, r1⟩ := h0.tup
    cases e
    exact call_tuple_of pins s σ H _ us Q I rs ⟨a1, vs, rfl, .inr ⟨h1, q.val h0⟩⟩
  · obtain ⟨x, rfl, a1, vs, rfl, h1, r1⟩ := paired_one hp
    cases e
    exact call_list_of pins s σ H _ us Q I rs ⟨a1, vs, rfl, .inl h1.sq, q.lst r1⟩
  · obtain ⟨x, rfl, h0⟩ := paired_one hp
    obtain ⟨a1, vs, rfl, h1, r1⟩ := h0.tup
    cases e
    exact call_list_of pins s σ H _ us Q I rs ⟨a1, vs, rfl, .inr h1, q.lst r1⟩
  · obtain ⟨x, rfl, h0⟩ := paired_one hp
    obtain rfl := h0.int
    split at e
    · rename_i hz; cases e
      exact call_str_int pins s σ H _ us Q I rs ⟨_, rfl, hz, q.val rfl⟩
    · cases e
  · obtain ⟨x, y, rfl, h0, h1⟩ := paired_two hp
    obtain rfl := h0.int
    obtain rfl := h1.int
    cases e
    exact call_max2 hc pins s σ H _ us Q I rs ⟨_, _, rfl, q.val rfl⟩
  · obtain ⟨x, rfl, h0⟩ := paired_one hp
    split at e
    · rename_i hz; cases e
      obtain ⟨z1, z2, z3, z4⟩ := hz
      obtain ⟨u, rfl, ru⟩ := vals1 rs
      obtain ⟨as, hr⟩ := Dp.reads I _ x u h0.dp ru
      obtain ⟨a1, vs, rfl, h1, r1⟩ := h0
      cases ru
      refine repr_of_reads' hr z1 (fun z => by rw [z2] at z; cases z) hg (by omega) (fun _ _ e => e) (fun h' t tk hk => ?_) z4
      exact ⟨.str _, H, I.kept hk, ⟨_, rfl⟩, q.val rfl⟩
    · cases e
  · obtain ⟨x, y, rfl, h0, h1⟩ := paired_two hp
    obtain rfl := h0.int
    obtain rfl := h1.int
    cases e
    exact call_min2 hc pins s σ H _ us Q I rs ⟨_, _, rfl, q.val rfl⟩
  · cases e
theorem pe_blt {f : Blt} {r : List V → Hp → VK → Prop} {t : TA} (hc : CallR X f.val r) (hg : Gl X f.name) (hm : X.mg f.name = none) (ha : PA X (e :: es) t)
    (he : starEach (e :: es) X.env = (false, eval e X.env) :: starEach es X.env) (hpl : (backTo pos (starEach es X.env)).any (·.1) = false) : PE X (.Call (.Name f.name p) (e :: es) [] pos) (tCB r t) := by
  have hn : f.name ≠ "__name__" := by cases f <;> decide +kernel
  have hd : (f.name == ("__debug__" : Str)) = false := by cases f <;> decide +kernel
  have hb := f.boot
  revert hc hg hm hb hn hd
  generalize f.name = nm
  intro hc hg hm hn hd hb
  cases hv : f.val with
  | builtin id =>
    rw [hv] at hc hb
    exact pe_callB hc hg hm hb ha hn hd he hpl
  | type T =>
    rw [hv] at hc hb
    exact pe_callTy hc hg hm hb ha hn hd he hpl
  | _ => cases f <;> simp [Blt.val] at hv
theorem de_blt {f : Blt} {g : M (List Pn)} (hc : X.calm = true) (hgd : X.A.guards = some []) (hu : X.A.units + 64 < cLine) (hg : Gl X f.name) (hm : X.mg f.name = none) (ha : DPA fa TB W X (e :: es) g)
    (he : starEach (e :: es) X.env = (false, eval e X.env) :: starEach es X.env) (hpl : (backTo pos (starEach es X.env)).any (·.1) = false) :
    DE fa TB W X (.Call (.Name f.name p) (e :: es) [] pos) (g >>= fun ps => rdAll ps >>= fun ds => M.of (bltD f ds)) :=
  (pe_blt (call_blt (fa := fa) (TB := TB) hc hgd hu f) hg hm ha he hpl).imp fun σ H Q hh => seq0 hh fun ps vs H1 env1 A1 B1 es1 r1 nd1 tb1 c1 => by
    obtain ⟨ds, h1, c2⟩ := rdAll_ok es1 r1 c1
    obtain ⟨ov, e1, c3⟩ := of_end c2
    exact ⟨ds, ov, h1, e1, Cont.vr es1 nd1 c3⟩
/-! ### f-strings -/
theorem dp_lift {f : M Pn} {k : PyData → M O} {Q : VK} {σ : L2.St} {H : Hp} (h : rdg fa X.K TB W (rO fa X.K) (f >>= fun p => rd p >>= k) σ H Q) {R : V → Hp → Prop}
    (fin : ∀ d v H1 env1 A1 L, RdR X.K H1 d v → ES fa X.K H1 env1 σ A1 → (A1 ++ L).Nodup → LamX.Tabs TB H1 → Cont fa X.K TB W (rO fa X.K) σ (A1 ++ L) H1 (k d env1) Q → R v H1) : rdg fa X.K TB W (rP fa X.K) f σ H R :=
  seq0 h fun p x H1 env1 A1 B1 es1 r1 nd1 tb1 c1 => by
    obtain ⟨d, h1, _, c2⟩ := rd_ok es1 r1 c1
    exact fin d x H1 env1 A1 _ h1 es1 nd1 tb1 c2
end
end DL
namespace DL
open PySem PySem.Spec PyProof.Rows L2
section
variable {fa : List Addr} {TB : List (Addr × Str)} {W : Exc → Hp → Prop} {X : Cx} {e a b : Expr} {es : List Expr} {pos p p2 : Pos}
/-! ### f-strings -/
def DF (fa : List Addr) (TB : List (Addr × Str)) (W : Exc → Hp → Prop) (X : Cx) (es : List Expr) (f : Str → M Str) : Prop := ∃ ts, PJ X es ts ∧ ∀ acc σ H Q, rdg fa X.K TB W rB (f acc) σ H Q → tJs ts acc σ H Q
theorem df_nil : DF fa TB W X [] (fun acc => pure acc) := ⟨[], .nil, fun acc σ H Q ⟨env, A, es, nd, tb, c⟩ => c acc H A [] (Step.refl _ _) es ⟨rfl, rfl⟩ (by simpa using nd) (by simpa using Fresh.self _ _)⟩
theorem df_str {x : Str} {j : Nat} {f : Str → M Str} (h : DF fa TB W X es f) : DF fa TB W X (.Constant (.str x) j pos :: es) (fun acc => if (acc ++ x).length ≤ sizeLine then f (acc ++ x) else fun _ => .stuck) := by
  obtain ⟨ts, h1, h2⟩ := h
  refine ⟨_, .cons (pe_str (x := x)) h1, fun acc σ H Q hh => ?_⟩
  obtain ⟨env, A, es, nd, tb, c⟩ := hh
  have c' : Cont fa X.K TB W rB σ A H ((if (acc ++ x).length ≤ sizeLine then f (acc ++ x) else fun _ => .stuck) env) Q := c
  split at c'
  · rename_i hz
    exact ⟨x, rfl, hz, h2 _ σ H Q ⟨env, A, es, nd, tb, c'⟩⟩
  · exact c'.elim
theorem df_int {f : Str → M Str} {g : M Pn} (hg : DP fa TB W X e g) (h : DF fa TB W X es f) : DF fa TB W X (.FormattedValue e (-1) none pos :: es)
    (fun acc => g >>= fun p => rd p >>= fun d => M.of (match d with | .int i => if i.natAbs.log2 < 1920 then some (toString i : Str) else none | _ => none) >>= fun x => if (acc ++ x).length ≤ sizeLine then f (acc ++ x) else fun _ => .stuck) := by
  obtain ⟨ts, h1, h2⟩ := h
  refine ⟨_, .cons (pe_fmt hg) h1, fun acc σ H Q hh => ?_⟩
  unfold tJs tFmt
  refine seq0 hh fun p x H1 env1 A1 B1 es1 r1 nd1 tb1 c1 => ?_
  obtain ⟨d, hd, _, c2⟩ := rd_ok es1 r1 c1
  obtain ⟨y, e1, c3⟩ := of_ok c2
  split at e1
  · split at e1
    · rename_i hz; cases e1
      refine .inr ⟨_, hd.int, hz, _, rfl, ?_⟩
      have c3' : Cont fa X.K TB W rB σ (A1 ++ B1) H1 ((if (acc ++ (toString _ : Str)).length ≤ sizeLine then f (acc ++ (toString _ : Str)) else fun _ => .stuck) env1) Q := c3
      split at c3'
      · rename_i hz2
        refine ⟨hz2, h2 _ σ H1 Q ⟨env1, A1, es1, (List.nodup_append.mp nd1).1, tb1, ?_⟩⟩
        -- drop the temporaries
        have nd' := nd1
        revert c3'
        generalize f _ env1 = rr
        intro c3'
        cases rr with
        | stuck => exact c3'
        | exc x e' => exact fun H' A' s e n f => c3' H' A' (s.wide fun a ha => List.mem_append_left _ ha) e n fun a ha => (f a ha).imp (fun z => List.mem_append_left _ z) id
        | ok a e' => exact fun b H' A' B s e r n f => c3' b H' A' B (s.wide fun a ha => List.mem_append_left _ ha) e r n fun a ha => (f a ha).imp (fun z => List.mem_append_left _ z) id
      · exact c3'.elim
    · cases e1
  · cases e1
theorem de_fst {v1 v2 : Expr} {rest : List Expr} {f : Str → M Str} (h : DF fa TB W X (v1 :: v2 :: rest) f) : DE fa TB W X (.JoinedStr (v1 :: v2 :: rest) pos) (f Str.empty >>= fun x => pure (.val (.str x))) := by
  obtain ⟨ts, h1, h2⟩ := h
  refine (pe_joined h1).imp fun σ H Q hh => h2 _ σ H _ (seq0 hh fun x x' H1 env1 A1 B1 es1 r1 nd1 tb1 c1 => ?_)
  obtain ⟨rfl, rfl⟩ := rB_eq r1
  exact (Cont.vr es1 nd1 c1).val rfl
/-! ### several slots -/
def ORepOpt (fa : List Addr) (K : PySem.W.Frag) (H : Hp) : List (Option O) → List V → List Addr → Prop
  | [], vs, A => vs = [] ∧ A = []
  | none :: os, vs, A => ∃ v r, vs = v :: r ∧ ORepOpt fa K H os r A
  | some o :: os, vs, A => ∃ v r A1 A2, vs = v :: r ∧ A = A1 ++ A2 ∧ ORep fa K H o v A1 ∧ ORepOpt fa K H os r A2
theorem opt_some {K : PySem.W.Frag} {H : Hp} : ∀ {os : List O} {vs : List V} {A : List Addr}, ORepAll fa K H os vs A → ORepOpt fa K H (os.map some) vs A
  | [], _, _, h => by simp only [ORepAll] at h; exact h
  | o :: os, vs, A, h => by
    simp only [ORepAll] at h
    obtain ⟨v, r, A1, A2, e1, e2, h1, h2⟩ := h
    exact ⟨v, r, A1, A2, e1, e2, h1, opt_some h2⟩
theorem opt_none {K : PySem.W.Frag} {H : Hp} : ∀ {is : List Nat} {vs : List V}, is.length = vs.length → ORepOpt fa K H (is.map fun _ => none) vs []
  | [], [], _ => ⟨rfl, rfl⟩
  | i :: is, v :: vs, h => ⟨v, vs, rfl, opt_none (by simpa using h)⟩
theorem getAll_set : ∀ {is : List Nat} {env : DEnv} {i : Nat} {oo : Option O}, i ∉ is → getAll (env.set i oo) is = getAll env is
  | [], _, _, _, _ => rfl
  | j :: is, env, i, oo, h => by
    have hj : i ≠ j := fun z => h (by simp [z])
    simp only [getAll]
    rw [List.getElem?_set_ne hj, getAll_set (is := is) fun z => h (by simp [z])]
theorem setAll_set : ∀ {is : List Nat} {os : List (Option O)} {env : DEnv} {i : Nat} {oo : Option O}, i ∉ is → setAll (env.set i oo) is os = (setAll env is os).set i oo
  | [], _, _, _, _, _ => by simp [setAll]
  | j :: is, [], _, _, _, _ => by simp [setAll]
  | j :: is, o :: os, env, i, oo, h => by
    have hj : i ≠ j := fun z => h (by simp [z])
    simp only [setAll]
    rw [List.set_comm _ _ hj, setAll_set fun z => h (by simp [z])]
theorem setAll_get : ∀ {is : List Nat} {os : List (Option O)} {env : DEnv} {i : Nat}, i ∉ is → (setAll env is os)[i]? = env[i]?
  | [], _, _, _, _ => by simp [setAll]
  | j :: is, [], _, _, _ => by simp [setAll]
  | j :: is, o :: os, env, i, h => by
    have hj : j ≠ i := fun z => h (by simp [z])
    simp only [setAll]
    rw [setAll_get fun z => h (by simp [z]), List.getElem?_set_ne hj]
/-- the contents of some slots, the rest, and how all stands when they are put anew -/
theorem ES.slots {K : PySem.W.Frag} {σ : L2.St} {H : Hp} : ∀ {ins : List Nat} {env : DEnv} {A : List Addr} {cs : List O}, ins.Nodup → ES fa K H env σ A → A.Nodup → getAll env ins = some cs →
    ∃ vs Ac Ar, Paired (fun i v => σ[i]? = some (some v)) ins vs ∧ ORepAll fa K H cs vs Ac ∧ (Ac ++ Ar).Nodup ∧ (∀ x, x ∈ A ↔ x ∈ Ac ∨ x ∈ Ar) ∧
      ∀ (H' : Hp) (os : List (Option O)) (A' : List Addr), Le H H' → (∀ a ∈ Ar, ∀ xs, H a = some (.lst xs) → H' a = some (.lst xs)) → ORepOpt fa K H' os vs A' → A'.Nodup → (∀ x ∈ A', x ∉ Ar) →
        ∃ A2, ES fa K H' (setAll env ins os) σ A2 ∧ A2.Nodup ∧ ∀ x, x ∈ A2 ↔ x ∈ A' ∨ x ∈ Ar
  | [], env, A, cs, _, es, nd, g => by
    simp only [getAll, Option.some.injEq] at g
    subst g
    refine ⟨[], [], A, .nil, (show ORepAll fa K H [] [] [] from ⟨rfl, rfl⟩), by simpa using nd, fun x => by simp, fun H' os A' l k r n d => ?_⟩
    have e : A' = [] := by
      cases os with
      | nil => exact r.2
      | cons o os => cases o with
        | none => obtain ⟨v, q, z, _⟩ := r; cases z
        | some o => obtain ⟨v, q, _, _, z, _⟩ := r; cases z
    subst e
    have e2 : setAll env [] os = env := by cases os <;> rfl
    rw [e2]
    exact ⟨A, es.mono l k, nd, fun x => by simp⟩
  | i :: is, env, A, cs, hn, es, nd, g => by
    obtain ⟨hi, hn⟩ := List.nodup_cons.mp hn
    simp only [getAll] at g
    split at g
    · rename_i o ho
      simp only [Option.map_eq_some_iff] at g
      obtain ⟨cs', g', rfl⟩ := g
      obtain ⟨A1, B, A2, y, hA, hs, hv, _, hset⟩ := es.slot ho
      obtain ⟨v, rfl, ro⟩ := hv o rfl
      subst hA
      obtain ⟨n1, n2, n3⟩ := nodup_mid nd
      have es1 : ES fa K H (env.set i none) σ (A1 ++ A2) := by
        have := hset H none (some v) [] (Le.refl H) (fun a ha xs e => e) (fun o z => by cases z) (fun _ => rfl)
        rw [set_same hs] at this
        simpa using this
      obtain ⟨vs, Ac, Ar, p1, r1, d1, m1, f1⟩ := ES.slots (ins := is) hn es1 n1 (by rw [getAll_set hi]; exact g')
      refine ⟨v :: vs, B ++ Ac, Ar, .cons hs p1, by simp only [ORepAll]; exact ⟨v, vs, B, Ac, rfl, rfl, ro, r1⟩, ?_, fun x => ?_, fun H' os A' l k r n d => ?_⟩
      · rw [List.append_assoc]
        refine List.nodup_append.mpr ⟨n2, d1, fun x hx z hz q => n3 x hx ?_⟩
        rw [m1 x, ← List.mem_append, q]; exact hz
      · have := m1 x
        simp only [List.mem_append] at this ⊢
        constructor
        · rintro (h | h | h)
          · rcases this.mp (.inl h) with q | q <;> simp [q]
          · simp [h]
          · rcases this.mp (.inr h) with q | q <;> simp [q]
        · rintro ((h | h) | h)
          · simp [h]
          · rcases this.mpr (.inl h) with q | q <;> simp [q]
          · rcases this.mpr (.inr h) with q | q <;> simp [q]
      · cases os with
        | nil => obtain ⟨z, _⟩ := r; cases z
        | cons oo os =>
          have hk : ∃ B1 A3, A' = B1 ++ A3 ∧ (∀ o, oo = some o → ORep fa K H' o v B1) ∧ (oo = none → B1 = []) ∧ ORepOpt fa K H' os vs A3 := by
            cases oo with
            | none => obtain ⟨v', q, z, r⟩ := r; cases z; exact ⟨[], A', rfl, fun o z => (by cases z), fun _ => rfl, r⟩
            | some o => obtain ⟨v', q, B1, A3, z, z2, r1, r2⟩ := r; cases z; exact ⟨B1, A3, z2, fun o z => (by cases z; exact r1), fun z => (by cases z), r2⟩
          obtain ⟨B1, A3, rfl, ho1, ho2, r3⟩ := hk
          obtain ⟨m1', m2', m3'⟩ := List.nodup_append.mp n
          obtain ⟨A4, es4, n4, mem4⟩ := f1 H' os A3 l k r3 m2' fun x hx => d x (List.mem_append_right _ hx)
          have hg : (setAll (env.set i none) is os)[i]? = some none := by
            rw [setAll_get hi]
            have : i < env.length := (List.getElem?_eq_some_iff.mp ho).1
            rw [List.getElem?_set_self this]
          obtain ⟨C1, Bn, C2, y2, hC, hs2, _, hn2, hset2⟩ := es4.slot hg
          obtain rfl := hn2 rfl
          subst hC
          rw [hs] at hs2
          cases hs2
          have es5 := hset2 H' oo (some v) B1 (Le.refl H') (fun a ha xs e => e) (fun o z => ⟨v, rfl, ho1 o z⟩) ho2
          rw [set_same hs, ← setAll_set hi] at es5
          have e6 : (env.set i none).set i oo = env.set i oo := List.set_set ..
          rw [e6] at es5
          simp only [List.nil_append] at n4 mem4
          refine ⟨C1 ++ (B1 ++ C2), es5, mid_nodup n4 m1' fun x hx z => ?_, fun x => ?_⟩
          · rcases (mem4 x).mp z with q | q
            · exact m3' x hx x q rfl
            · exact d x (List.mem_append_left _ hx) q
          · have := mem4 x
            simp only [List.mem_append] at this ⊢
            constructor
            · rintro (h | h | h)
              · rcases this.mp (.inl h) with q | q <;> simp [q]
              · simp [h]
              · rcases this.mp (.inr h) with q | q <;> simp [q]
            · rintro ((h | h) | h)
              · simp [h]
              · rcases this.mpr (.inl h) with q | q <;> simp [q]
              · rcases this.mpr (.inr h) with q | q <;> simp [q]
    · cases g
end
end DL
namespace DL
open PySem PySem.Spec PyProof.Rows L2

/-! ### functions -/
/-- a def's promise, where nothing is shown of something else (A.guards) -/
structure FnG (P : Program) (w : World) (K : PySem.W.Frag) (mg : Str → Option Value) (base : Heap) (k : Nat) (f : Addr) (fd : FuncData) (ps : List Str) (sp : Sp) : Prop where
  len : ∀ vs H Q E, sp vs H Q E → vs.length = ps.length
  run : ∀ (A : Around) (outer : List Env) (s : Shared) (H : Hp) (args : Args) (us : List Value) (vs : List V) (Q : VK) (E : XK), Room k A → A.guards = some [] → Env0 P w K mg base A outer s H → BindsTo s fd args (ps.zip us) → Vals vs us → sp vs H Q E →
    codeAny (model P w) A (.call (.ref f) args) (CR (L2.CX P w) outer P w H s Q E) s
theorem FnG.mono {P : Program} {w : World} {K : PySem.W.Frag} {mg : Str → Option Value} {base : Heap} {j k : Nat} {f : Addr} {fd : FuncData} {ps : List Str} {sp : Sp} (F : FnG P w K mg base j f fd ps sp) (h : j ≤ k) :
    FnG P w K mg base k f fd ps sp := ⟨F.len, fun A outer s H args us vs Q E hr => F.run A outer s H args us vs Q E (hr.mono h)⟩
/-- the promise of a function of the table; xa: the classes of exceptions -/
def spD (fa : List Addr) (TB : List (Addr × Str)) (K : PySem.W.Frag) (xa : List Addr) (nIn : Nat) (φ : FnSem) : Sp := fun vs H Q E =>
  ∃ os A, ORepAll fa K H os vs A ∧ A.Nodup ∧ LamX.Tabs TB H ∧ match φ.run os with
    | .ok o outs => outs.length = nIn ∧ ∀ v H' A' B, Step TB A H H' → ORepAll fa K H' outs (vs.take nIn) A' → ORep fa K H' o v B → (A' ++ B).Nodup → Fresh A H (A' ++ B) → Q v H'
    | .exc x => ∀ H', Step TB A H H' → E (.ref (xa.getD x.cls 0)) none H'
    | .stuck => False
section
variable {fa : List Addr} {TB : List (Addr × Str)} {W : Exc → Hp → Prop} {X : Cx} {e a b : Expr} {es : List Expr} {pos p p2 : Pos}
theorem run_fnG {k : Nat} {f : Addr} {fd : FuncData} {ps : List Str} {sp : Sp} {E : XK} {pins : List (Addr × Obj)} {σ : L2.St} {H : Hp} {s : Shared} {Q : VK} {us : List Value} {vs : List V} (F : FnG X.prog X.w X.K X.mg X.base k f fd ps sp) (hr : Room k X.A) (hgd : X.A.guards = some []) (hb : Binds X.K fd ps []) (hx : Passes (L2.CX X.prog X.w) X E)
    (I : Inv X pins σ H s) (r : Vals vs us) (h : sp vs H Q E) : wpAny (model X.prog X.w) X.A (call (.ref f) us) (EP X pins σ Q) X.xe s := by
  have hl : (us ++ []).length = ps.length := by rw [List.append_nil, ← r.length]; exact F.len _ _ _ _ h
  have hbb := hb s us I.kIn hl
  rw [List.append_nil] at hbb
  refine wpAny_call (codeAny_mono (F.run X.A X.stack s H ⟨us, []⟩ us vs Q E hr hgd I.env0 hbb r h) fun r s' hq => ?_)
  cases r with
  | error e => exact hx pins σ H s e s' I hq
  | ok fl =>
    cases fl with
    | ret u => exact I.after hq
    | next => exact False.elim hq
    | brk => exact False.elim hq
    | cont => exact False.elim hq
/-- the arguments' first is no star -/
def noStar : List Expr → Bool
  | [] => true
  | .Starred .. :: _ => false
  | _ :: es => noStar es
theorem star_cons {env : Env} : ∀ {e : Expr} {es : List Expr}, noStar (e :: es) = true → starEach (e :: es) env = (false, eval e env) :: starEach es env := by
  intro e es h
  cases e <;> first | rfl | simp [noStar] at h
theorem noStar_tail {e : Expr} {es : List Expr} (h : noStar (e :: es) = true) : noStar es = true := by
  cases e <;> simp_all [noStar]
theorem star_plain {env : Env} {pos : Pos} : ∀ {es : List Expr}, noStar es = true → (backTo pos (starEach es env)).any (·.1) = false := by
  have h0 : ∀ {es : List Expr}, noStar es = true → (starEach es env).any (·.1) = false := by
    intro es
    induction es with
    | nil => intro _; rfl
    | cons e es ih =>
      intro h
      rw [star_cons h]
      simp only [List.any_cons, Bool.false_or]
      exact ih (noStar_tail h)
  intro es h
  unfold backTo
  rw [List.any_map]
  exact h0 (es := es) h
end
end DL
namespace DL
open PySem PySem.Spec PyProof.Rows L2
section
variable {fa : List Addr} {TB : List (Addr × Str)} {W : Exc → Hp → Prop} {X : Cx} {e a b : Expr} {ns es : List Expr} {pos p p2 : Pos}
theorem pe_callG {k : Nat} {f : Addr} {fd : FuncData} {ps : List Str} {sp : Sp} {E : XK} {x : Str} {t : TA} (F : FnG X.prog X.w X.K X.mg X.base k f fd ps sp) (hr : Room k X.A) (hgd : X.A.guards = some []) (hg : Gl X x) (hm : X.mg x = some (.ref f)) (hk : PySem.W.keepIn X.K (.ref f) = true) (hb : Binds X.K fd ps [])
    (hx : Passes (L2.CX X.prog X.w) X E) (hdb : (x == ("__debug__" : Str)) = false) : ∀ {as : List Expr}, as ≠ [] → noStar as = true → PA X as t → PE X (.Call (.Name x p) as [] pos) (fun σ H Q => t σ H fun vs H1 => sp vs H1 Q E)
  | [], hne, _, _ => absurd rfl hne
  | e :: es, _, hs, ha => by
    refine ⟨fun pins s σ H Q I h => ?_⟩
    refine wpAny_Call_Name_kw (ld_glob I hg hm ?_ hdb)
    refine PySem.W.callWith_K (h₀ := X.base) I.ok.mod.kin hk (thn (ha.run pos pins s σ H _ I h) fun us s1 ⟨vs, H1, I1, r, q⟩ => ⟨I1.kIn, ?_⟩) (star_cons hs) (star_plain (noStar_tail hs))
    exact run_fnG F hr hgd hb hx I1 r q
theorem pa_ins {t : TA} : ∀ {ins : List Nat} {ns : List Expr}, Paired (fun i e => PE X e (tVar i)) ins ns → noStar (ns ++ es) = true → PA X es t →
    PA X (ns ++ es) (fun σ H Q => ∃ vs0, Paired (fun i v => σ[i]? = some (some v)) ins vs0 ∧ t σ H fun vs H1 => Q (vs0 ++ vs) H1)
  | [], [], _, _, ha => ha.imp fun σ H Q h => by
    obtain ⟨vs0, h1, h2⟩ := h
    cases h1
    exact h2
  | i :: ins, n :: ns, .cons h1 h2, hs, ha => by
    refine (pa_cons h1 (pa_ins h2 (noStar_tail hs) ha) (star_cons hs)).imp fun σ H Q h => ?_
    obtain ⟨vs0, q1, q2⟩ := h
    cases q1 with
    | cons r1 r2 => exact ⟨_, r1, _, r2, q2⟩
theorem orepall_app {K : PySem.W.Frag} {H : Hp} : ∀ {xs ys : List O} {vs us : List V} {A B : List Addr}, ORepAll fa K H xs vs A → ORepAll fa K H ys us B → ORepAll fa K H (xs ++ ys) (vs ++ us) (A ++ B)
  | [], _, _, _, _, _, h, h' => by
    simp only [ORepAll] at h
    obtain ⟨rfl, rfl⟩ := h
    exact h'
  | x :: xs, _, vs, _, A, _, h, h' => by
    simp only [ORepAll] at h
    obtain ⟨v, r, A1, A2, rfl, rfl, h1, h2⟩ := h
    simp only [List.cons_append, ORepAll]
    exact ⟨v, _, A1, _, rfl, by rw [List.append_assoc], h1, orepall_app h2 h'⟩
theorem paired_len {α β : Type} {F : α → β → Prop} {xs : List α} {ys : List β} (h : Paired F xs ys) : xs.length = ys.length := Paired.length h
theorem pe_callG0 {k : Nat} {f : Addr} {fd : FuncData} {ps : List Str} {sp : Sp} {E : XK} {x : Str} (F : FnG X.prog X.w X.K X.mg X.base k f fd ps sp) (hr : Room k X.A) (hgd : X.A.guards = some []) (hg : Gl X x) (hm : X.mg x = some (.ref f)) (hk : PySem.W.keepIn X.K (.ref f) = true) (hb : Binds X.K fd ps [])
    (hx : Passes (L2.CX X.prog X.w) X E) (hdb : (x == ("__debug__" : Str)) = false) : PE X (.Call (.Name x p) [] [] pos) (fun σ H Q => sp [] H Q E) := by
  refine ⟨fun pins s σ H Q I h => ?_⟩
  refine wpAny_Call_Name_kw (ld_glob I hg hm ?_ hdb)
  exact PySem.W.callWith_K0 I.kIn hk (run_fnG (us := []) F hr hgd hb hx I .nil h)
theorem paired_fun {σ : L2.St} : ∀ {ins : List Nat} {vs us : List V}, Paired (fun i v => σ[i]? = some (some v)) ins vs → Paired (fun i v => σ[i]? = some (some v)) ins us → vs = us
  | [], _, _, .nil, .nil => rfl
  | i :: ins, _, _, .cons a b, .cons c d => by
    rw [a] at c
    cases c
    rw [paired_fun b d]
theorem chk_ok {α β : Type} {rep : RepT α β} {σ : L2.St} {H : Hp} {A : List Addr} {env : DEnv} {ins : List Nat} {k : Unit → M α} {Q : β → Hp → Prop} (c : Cont fa X.K TB W rep σ A H ((chkSlots ins >>= k) env) Q) : ∃ cs, getAll env ins = some cs ∧ Cont fa X.K TB W rep σ A H (k () env) Q := by
  rw [M.bind_def] at c
  unfold chkSlots at c
  cases h : getAll env ins with
  | none => rw [h] at c; exact c.elim
  | some cs => rw [h] at c; exact ⟨cs, rfl, c⟩
/-- behind the arguments: the call itself -/
theorem call_core {j : Nat} {ins : List Nat} {Φ : List FnSem} {φ : FnSem} {xa : List Addr} {σ : L2.St} {H1 : Hp} {env1 : DEnv} {A1 B1 : List Addr} {os : List O} {vs vs0 : List V} {Q : VK} (hΦ : Φ[j]? = some φ) (hn : ins.Nodup) (es1 : ES fa X.K H1 env1 σ A1) (r1 : ORepAll fa X.K H1 os vs B1) (nd1 : (A1 ++ B1).Nodup) (tb1 : LamX.Tabs TB H1)
    (p0 : Paired (fun i v => σ[i]? = some (some v)) ins vs0) (c1 : Cont fa X.K TB W (rO fa X.K) σ (A1 ++ B1) H1 (callM Φ j ins os env1) Q) :
    spD fa TB X.K xa ins.length φ (vs0 ++ vs) H1 Q (fun cls d H' => ∃ y, cls = .ref (xa.getD y.cls 0) ∧ d = none ∧ W y H') := by
  unfold callM at c1
  rw [hΦ] at c1
  cases hg : getAll env1 ins with
  | none => rw [hg] at c1; exact c1.elim
  | some cs =>
    rw [hg] at c1
    simp only at c1
    obtain ⟨n1, n2, n3⟩ := List.nodup_append.mp nd1
    obtain ⟨vs1, Ac, Ar, p1, rc, dc, mc, fc⟩ := ES.slots hn es1 n1 hg
    obtain rfl := paired_fun p0 p1
    have l0 : ins.length = vs0.length := paired_len p0
    have hAc : ∀ x ∈ Ac, x ∈ A1 := fun x hx => (mc x).mpr (.inl hx)
    have hAr : ∀ x ∈ Ar, x ∈ A1 := fun x hx => (mc x).mpr (.inr hx)
    obtain ⟨d1, d2, d3⟩ := List.nodup_append.mp dc
    have sub : ∀ x ∈ Ac ++ B1, x ∈ A1 ++ B1 := fun x hx => by
      rcases List.mem_append.mp hx with hx | hx
      · exact List.mem_append_left _ (hAc x hx)
      · exact List.mem_append_right _ hx
    have arN : ∀ x ∈ Ar, x ∉ Ac ++ B1 := fun x hx z => by
      rcases List.mem_append.mp z with z | z
      · exact d3 x z x hx rfl
      · exact n3 x (hAr x hx) x z rfl
    have arL : ∀ x ∈ Ar, ∃ xs, H1 x = some (.lst xs) := fun x hx => es1.lsts x (hAr x hx)
    refine ⟨cs ++ os, Ac ++ B1, orepall_app rc r1, List.nodup_append.mpr ⟨d1, n2, fun x hx y hy z => n3 x (hAc x hx) y hy z⟩, tb1, ?_⟩
    cases hr : φ.run (cs ++ os) with
    | stuck => rw [hr] at c1; exact c1
    | exc y =>
      rw [hr] at c1
      simp only at c1 ⊢
      intro H' s
      have kar : ∀ a ∈ Ar, ∀ xs, H1 a = some (.lst xs) → H' a = some (.lst xs) := fun a ha xs e => s.keep a _ e (arN a ha) fun ps z => by cases z
      obtain ⟨A2, es2, nd2, m2⟩ := fc H' (ins.map fun _ => none) [] s.le kar (opt_none l0) (by simp) (by simp)
      refine ⟨y, rfl, True.intro, c1 H' A2 (s.wide sub) es2 nd2 fun a ha => .inl ?_⟩
      rcases (m2 a).mp ha with z | z
      · simp at z
      · exact List.mem_append_left _ (hAr a z)
    | ok o outs =>
      rw [hr] at c1
      simp only at c1 ⊢
      split at c1
      · rename_i hl
        refine ⟨hl, fun v H' A' B s ro rv nd f => ?_⟩
        have kar : ∀ a ∈ Ar, ∀ xs, H1 a = some (.lst xs) → H' a = some (.lst xs) := fun a ha xs e => s.keep a _ e (arN a ha) fun ps z => by cases z
        have et : (vs0 ++ vs).take ins.length = vs0 := by rw [l0]; simp
        rw [et] at ro
        obtain ⟨k1, k2, k3⟩ := List.nodup_append.mp nd
        have frr : ∀ x ∈ A' ++ B, x ∉ Ar := fun x hx z => by
          obtain ⟨xs, e⟩ := arL x z
          exact f.not e (arN x z) hx
        obtain ⟨A2, es2, nd2, m2⟩ := fc H' (outs.map some) A' s.le kar (opt_some ro) k1 fun x hx => frr x (List.mem_append_left _ hx)
        refine c1 v H' A2 B (s.wide sub) es2 rv (List.nodup_append.mpr ⟨nd2, k2, fun x hx y hy z => ?_⟩) fun a ha => ?_
        · rcases (m2 x).mp hx with q | q
          · exact k3 x q y hy z
          · exact frr y (List.mem_append_right _ hy) (z ▸ q)
        · rcases List.mem_append.mp ha with ha | ha
          · rcases (m2 a).mp ha with q | q
            · exact (f a (List.mem_append_left _ q)).imp (sub a) id
            · exact .inl (List.mem_append_left _ (hAr a q))
          · exact (f a (List.mem_append_right _ ha)).imp (sub a) id
      · exact c1.elim
theorem de_call {j : Nat} {ins : List Nat} {g : M (List O)} {Φ : List FnSem} {φ : FnSem} {f : Addr} {fd : FuncData} {ps : List Str} {k : Nat} {xa : List Addr} {x : Str} {Wx : WX}
    (F : FnG X.prog X.w X.K X.mg X.base k f fd ps (spD fa TB X.K xa ins.length φ)) (hΦ : Φ[j]? = some φ) (hr : Room k X.A) (hgd : X.A.guards = some []) (hg : Gl X x) (hm : X.mg x = some (.ref f)) (hk : PySem.W.keepIn X.K (.ref f) = true) (hb : Binds X.K fd ps [])
    (tk : Takes X Wx) (hW : ∀ y H', W y H' → ∀ σ, Wx (.ref (xa.getD y.cls 0)) none σ H') (hn : ins.Nodup) (hins : Paired (fun i e => PE X e (tVar i)) ins ns) (hne : ns ++ es ≠ []) (hst : noStar (ns ++ es) = true) (ha : DA fa TB W X es g)
    (hdb : (x == ("__debug__" : Str)) = false) : DE fa TB W X (.Call (.Name x p) (ns ++ es) [] pos) (chkSlots ins >>= fun _ => g >>= callM Φ j ins) := by
  refine (pe_callG (E := fun cls d H' => ∃ y, cls = .ref (xa.getD y.cls 0) ∧ d = none ∧ W y H') F hr hgd hg hm hk hb (passes_call tk fun cls d σ H ⟨y, e1, e2, q⟩ => by subst e1 e2; exact hW y H q σ) hdb hne hst (pa_ins hins hst ha)).imp fun σ H Q hh => ?_
  obtain ⟨env, A, es0, nd, tb, c⟩ := hh
  obtain ⟨cs0, hg0, c0⟩ := chk_ok c
  obtain ⟨vs0, _, _, p0, _⟩ := ES.slots hn es0 nd hg0
  refine ⟨vs0, p0, seqT (Bt := []) es0 (by simpa using nd) tb (fun x hx => absurd hx (by simp)) (by simpa using c0) fun os vs H1 env1 A1 B1 s1 es1 r1 nd1 _ tb1 c1 => ?_⟩
  exact call_core hΦ hn es1 r1 (by simpa using nd1) tb1 p0 (by simpa using c1)
theorem de_call0 {j : Nat} {Φ : List FnSem} {φ : FnSem} {f : Addr} {fd : FuncData} {ps : List Str} {k : Nat} {xa : List Addr} {x : Str} {Wx : WX}
    (F : FnG X.prog X.w X.K X.mg X.base k f fd ps (spD fa TB X.K xa 0 φ)) (hΦ : Φ[j]? = some φ) (hr : Room k X.A) (hgd : X.A.guards = some []) (hg : Gl X x) (hm : X.mg x = some (.ref f)) (hk : PySem.W.keepIn X.K (.ref f) = true) (hb : Binds X.K fd ps [])
    (tk : Takes X Wx) (hW : ∀ y H', W y H' → ∀ σ, Wx (.ref (xa.getD y.cls 0)) none σ H') (hdb : (x == ("__debug__" : Str)) = false) : DE fa TB W X (.Call (.Name x p) [] [] pos) (chkSlots [] >>= fun _ => (pure [] : M (List O)) >>= callM Φ j []) := by
  refine (pe_callG0 (E := fun cls d H' => ∃ y, cls = .ref (xa.getD y.cls 0) ∧ d = none ∧ W y H') F hr hgd hg hm hk hb (passes_call tk fun cls d σ H ⟨y, e1, e2, q⟩ => by subst e1 e2; exact hW y H q σ) hdb).imp fun σ H Q hh => ?_
  obtain ⟨env, A, es0, nd, tb, c⟩ := hh
  exact call_core (ins := []) (os := []) (vs := []) (vs0 := []) (B1 := []) hΦ (by simp) es0 (show ORepAll fa X.K H [] [] [] from ⟨rfl, rfl⟩) (by simpa using nd) tb .nil (by rw [List.append_nil]; exact c)
end
end DL
namespace DL
open PySem PySem.Spec PyProof.Rows L2
mutual
def tgSlots : Tg → List Nat
  | .name i => [i]
  | .tup ts => tgsSlots ts
def tgsSlots : List Tg → List Nat
  | [] => []
  | t :: ts => tgSlots t ++ tgsSlots ts
end
section
variable {fa : List Addr} {TB : List (Addr × Str)} {W : Exc → Hp → Prop} {X : Cx} {e a b : Expr} {ns es : List Expr} {pos p p2 : Pos}
/-! ### targets -/
def gDr (fa : List Addr) (K : PySem.W.Frag) (TB : List (Addr × Str)) (t : Tg) : TG := fun v σ H Q => ∃ d env A, Rep K H d v ∧ ES fa K H env σ A ∧ A.Nodup ∧ LamX.Tabs TB H ∧ ∃ env', asgD t d env = .ok () env' ∧
  ∀ σ' A', σ'.length = σ.length → (∀ i, i ∉ tgSlots t → σ'[i]? = σ[i]?) → ES fa K H env' σ' A' → A'.Nodup → (∀ a ∈ A', a ∈ A) → Q σ' H
def gDs (fa : List Addr) (K : PySem.W.Frag) (TB : List (Addr × Str)) (ts : List Tg) : TGs := fun vs σ H Q => ∃ ds env A, RepAll K H ds vs ∧ ES fa K H env σ A ∧ A.Nodup ∧ LamX.Tabs TB H ∧ ∃ env', asgAll ts ds env = .ok () env' ∧
  ∀ σ' A', σ'.length = σ.length → (∀ i, i ∉ tgsSlots ts → σ'[i]? = σ[i]?) → ES fa K H env' σ' A' → A'.Nodup → (∀ a ∈ A', a ∈ A) → Q σ' H
theorem _root_.L2.PG.imp {X : Cx} {e : Expr} {t t' : TG} (h : PG X e t) (i : ∀ v σ H Q, t' v σ H Q → t v σ H Q) : PG X e t' := ⟨fun pins s σ H v u Q I r q => h.run pins s σ H v u Q I r (i v σ H Q q)⟩
theorem _root_.L2.PGs.imp {X : Cx} {e : List Expr} {t t' : TGs} (h : PGs X e t) (i : ∀ v σ H Q, t' v σ H Q → t v σ H Q) : PGs X e t' := ⟨fun pins s σ H v u Q I r q => h.run pins s σ H v u Q I r (i v σ H Q q)⟩
theorem dg_name {i : Nat} {x : Str} (hN : X.N.Nodup) (hi : X.N[i]? = some x) (hx : Loc X.env.scope x) (hf : X.fn x = true ∨ X.env.scope.names.lookup x = some .local) : PG X (.Name x pos) (gDr fa X.K TB (.name i)) :=
  (pg_name hN hi hx hf).imp fun v σ H Q ⟨d, env, A, r, es, nd, tb, env', e, q⟩ => by
    simp only [asgD] at e
    split at e
    · rename_i hl
      cases e
      obtain ⟨A1, B, A2, y, hA, hs, _, _, hset⟩ := es.slot (List.getElem?_eq_getElem hl)
      subst hA
      obtain ⟨n1, n2, n3⟩ := nodup_mid nd
      refine q _ (A1 ++ ([] ++ A2)) (by simp) (fun j hj => ?_) (hset H _ _ [] (Le.refl H) (fun a ha xs e => e) (fun o z => by cases z; exact ⟨v, rfl, show ORep fa X.K H (.val d) v [] from ⟨rfl, r⟩⟩) (by simp)) (by simpa using n1) fun a ha => ?_
      · simp only [tgSlots, List.mem_singleton] at hj
        rw [List.getElem?_set_ne (Ne.symm hj)]
      · simp only [List.nil_append, List.mem_append] at ha ⊢
        rcases ha with ha | ha <;> simp [ha]
    · cases e
theorem dgs_nil : PGs X [] (gDs fa X.K TB []) := pgs_nil.imp fun vs σ H Q ⟨ds, env, A, r, es, nd, tb, env', e, q⟩ => by
  cases ds with
  | nil =>
    simp only [RepAll] at r
    have e : (R.ok () env : R Unit) = R.ok () env' := e
    cases e
    exact ⟨r, q σ A rfl (fun _ _ => rfl) es nd fun _ h => h⟩
  | cons d ds => simp [asgAll] at e
theorem dgs_cons {t : Tg} {ts : List Tg} (h1 : PG X e (gDr fa X.K TB t)) (h2 : PGs X es (gDs fa X.K TB ts)) (hs : (assignEach (e :: es) X.env).map (·.2) = assign e X.env :: (assignEach es X.env).map (·.2)) : PGs X (e :: es) (gDs fa X.K TB (t :: ts)) :=
  (pgs_cons h1 h2 hs).imp fun vs σ H Q ⟨ds, env, A, r, es0, nd, tb, env', e0, q⟩ => by
    cases ds with
    | nil => simp [asgAll] at e0
    | cons d ds =>
      simp only [RepAll] at r
      obtain ⟨v, rs, rfl, r1, r2⟩ := r
      simp only [asgAll, M.bind_def] at e0
      cases h3 : asgD t d env with
      | stuck => rw [h3] at e0; cases e0
      | exc x e' => rw [h3] at e0; cases e0
      | ok u env1 =>
        rw [h3] at e0
        refine ⟨v, rs, rfl, d, env, A, r1, es0, nd, tb, env1, h3, fun σ1 A1 l1 f1 es1 n1 m1 => ?_⟩
        refine ⟨ds, env1, A1, r2, es1, n1, tb, env', e0, fun σ2 A2 l2 f2 es2 n2 m2 => ?_⟩
        refine q σ2 A2 (l2.trans l1) (fun i hi => ?_) es2 n2 fun a ha => m1 a (m2 a ha)
        simp only [tgsSlots, List.mem_append, not_or] at hi
        rw [f2 i hi.2, f1 i hi.1]
def tgPlain : List Expr → Bool
  | [] => true
  | .Starred .. :: _ => false
  | _ :: es => tgPlain es
theorem asg_cons {env : Env} : ∀ {e : Expr} {es : List Expr}, tgPlain (e :: es) = true → (assignEach (e :: es) env).map (·.2) = assign e env :: (assignEach es env).map (·.2) := by
  intro e es h
  cases e <;> first | rfl | simp [tgPlain] at h
theorem tgPlain_tail {e : Expr} {es : List Expr} (h : tgPlain (e :: es) = true) : tgPlain es = true := by
  cases e <;> simp_all [tgPlain]
theorem asg_len {env : Env} : ∀ {es : List Expr}, (assignEach es env).length = es.length
  | [] => rfl
  | e :: es => by
    have := asg_len (env := env) (es := es)
    cases e <;> simp [assignEach, this]
theorem asg_nostar {env : Env} : ∀ {es : List Expr}, tgPlain es = true → (assignEach es env).findIdx? (·.1) = none
  | [], _ => rfl
  | e :: es, h => by
    have ih := asg_nostar (env := env) (tgPlain_tail h)
    cases e <;> first | (simp [tgPlain] at h; done) | (simp [assignEach, List.findIdx?_cons, ih])
theorem dg_tup {ts : List Tg} {k : Nat} (hc : X.calm = true) (h : PGs X es (gDs fa X.K TB ts)) (hp : tgPlain es = true) (hl : ts.length = es.length) : PG X (.Tuple es k pos) (gDr fa X.K TB (.tup ts)) :=
  (pg_tup (n := es.length) hc h asg_len (asg_nostar hp)).imp fun v σ H Q ⟨d, env, A, r, es0, nd, tb, env', e0, q⟩ => by
    cases d with
    | tuple ds =>
      simp only [Rep] at r
      obtain ⟨a, vs, rfl, h1, h2⟩ := r
      simp only [asgD] at e0
      have hz : ∀ {ts : List Tg} {ds : List PyData} {env env' : DEnv}, asgAll ts ds env = .ok () env' → ds.length = ts.length := by
        intro ts
        induction ts with
        | nil => intro ds env env' h; cases ds with
          | nil => rfl
          | cons d ds => simp [asgAll] at h
        | cons t ts ih => intro ds env env' h; cases ds with
          | nil => simp [asgAll] at h
          | cons d ds =>
            simp only [asgAll, M.bind_def] at h
            cases h3 : asgD t d env with
            | stuck => rw [h3] at h; cases h
            | exc x e' => rw [h3] at h; cases h
            | ok u env1 => rw [h3] at h; simp [ih h]
      refine ⟨a, vs, rfl, h1, by rw [h2.len, hz e0, hl], ds, env, A, h2, es0, nd, tb, env', e0, ?_⟩
      simpa only [tgSlots] using q
    | _ => simp [asgD] at e0

/-! ### what is walked -/
structure WalksD (K : PySem.W.Frag) (TB : List (Addr × Str)) (J : L2.It) (ds : List PyData) (H0 : Hp) : Prop where
  go : ∀ i H, i < ds.length → Le H0 H → J.go i H
  yld : ∀ i H x H', Le H0 H → i < ds.length → J.yld i H x H' → Step TB [] H H' ∧ ∃ d, ds[i]? = some d ∧ Rep K H' d x
  stop : ∀ i H, ds.length ≤ i → Le H0 H → J.stop i H
theorem WalksD.mono {K : PySem.W.Frag} {J : L2.It} {ds : List PyData} {H0 H1 : Hp} (w : WalksD K TB J ds H0) (l : Le H0 H1) : WalksD K TB J ds H1 :=
  ⟨fun i H h h' => w.go i H h (l.trans h'), fun i H x H' h h1 h2 => w.yld i H x H' (l.trans h) h1 h2, fun i H h h' => w.stop i H h (l.trans h')⟩
def rI (K : PySem.W.Frag) (TB : List (Addr × Str)) : RepT (List PyData) L2.It := fun _ H ds J B => B = [] ∧ WalksD K TB J ds H
abbrev DI (fa : List Addr) (TB : List (Addr × Str)) (W : Exc → Hp → Prop) (X : Cx) (tg e : Expr) (f : M (List PyData)) : Prop := PI X tg e (rdg fa X.K TB W (rI X.K TB) f)
theorem _root_.L2.PI.imp {X : Cx} {tg e : Expr} {t t' : TI} (h : PI X tg e t) (i : ∀ σ H Q, t' σ H Q → t σ H Q) : PI X tg e t' := ⟨fun pins s σ H R I q => h.run pins s σ H R I (i σ H R q)⟩
theorem LkQ.inv2 {R : Hp → Prop} {H : Hp} (h : LkQ R H) : ∀ {X : Cx} {pins : List (Addr × Obj)} {σ : L2.St} {s : Shared}, Inv X pins σ H s → ∃ H', Inv X pins σ H' s ∧ (∀ b, H b = none → H' b = none) ∧ R H' := by
  induction h with
  | here q => exact fun I => ⟨_, I, fun _ h => h, q⟩
  | lock e _ ih =>
    intro X pins σ s I
    obtain ⟨od, I1⟩ := I.lock e (by simp [Mut])
    obtain ⟨H', I2, n, q⟩ := ih od I1
    exact ⟨H', I2, fun b hb => n b (by rw [upd_ne fun z => by rw [z, e] at hb; cases hb]; exact hb), q⟩
theorem postI {tg : Expr} {t : TI} (h : PI X tg e t) : PI X tg e (fun σ H R => t σ H fun J H1 => LkQ (R J) H1) := ⟨fun pins s σ H R I q =>
  thn (h.run pins s σ H _ I q) fun v s1 h1 => thn h1 fun itv s2 ⟨it, fp, tn, J, H2, e1, I2, T, st, f, l⟩ => by
    obtain ⟨H3, I3, n, q3⟩ := l.inv2 I2
    exact ⟨it, fp, tn, J, H3, e1, I3, T, st, fun b hb => ⟨n b (f b hb).1, (f b hb).2⟩, q3⟩⟩
theorem range1_get {lo hi : Int} {i : Nat} (h : i < (hi - lo).toNat) : (range1 lo hi)[i]? = some (.int (lo + i)) := by
  unfold range1
  rw [List.getElem?_map, List.getElem?_range h]
  rfl
theorem walks_range {K : PySem.W.Frag} {lo hi : Int} {H : Hp} : WalksD K TB (Itr lo (hi - lo).toNat) (range1 lo hi) H := by
  have hl : (range1 lo hi).length = (hi - lo).toNat := by simp [range1]
  refine ⟨fun i H h _ => ?_, fun i H x H' _ h1 hy => ?_, fun i H h _ => ?_⟩
  · show i < (hi - lo).toNat
    rw [← hl]; exact h
  · obtain ⟨rfl, rfl⟩ := hy
    exact ⟨Step.refl _ _, _, range1_get (by rw [← hl]; exact h1), rfl⟩
  · show (hi - lo).toNat ≤ i
    rw [← hl]; exact h
theorem Cont.walk {K : PySem.W.Frag} {σ : L2.St} {A L : List Addr} {H : Hp} {ds : List PyData} {env : DEnv} {J : L2.It} {Q : L2.It → Hp → Prop} (es : ES fa K H env σ A) (nd : (A ++ L).Nodup) (c : Cont fa K TB W (rI K TB) σ (A ++ L) H (.ok ds env) Q) (w : WalksD K TB J ds H) : Q J H :=
  c J H A [] (Step.refl _ _) es ⟨rfl, w⟩ (by simpa using (List.nodup_append.mp nd).1) fun a ha => .inl (by simp at ha; simp [ha])
theorem di_rng1 {tg : Expr} {f : M Pn} (hg : Gl X "range") (hm : X.mg "range" = none) (ha : DP fa TB W X a f) (hn : noStar [a] = true) : DI fa TB W X tg (.Call (.Name "range" p) [a] [] pos) (f >>= fun p => rd p >>= fun x => M.of (rngD1 x)) :=
  (pi_range1 hg hm (pa_cons ha pa_nil (star_cons hn)) (star_cons hn)).imp fun σ H R hh => seq0 hh fun p v H1 env1 A1 B1 es1 r1 nd1 tb1 c1 => by
    obtain ⟨d, h1, _, c2⟩ := rd_ok es1 r1 c1
    obtain ⟨l, e1, c3⟩ := of_end c2
    cases d with
    | int j =>
      simp only [rngD1] at e1
      split at e1
      · rename_i hb
        cases e1
        obtain rfl := h1.int
        have := Cont.walk es1 nd1 c3 (walks_range (lo := 0) (hi := j))
        rw [Int.sub_zero] at this
        exact ⟨j, rfl, hb.1, hb.2, this⟩
      · cases e1
    | _ => simp [rngD1] at e1
theorem seq2I {f g : M Pn} {k : PyData → PyData → M (List PyData)} {σ : L2.St} {H : Hp} {Q : L2.It → Hp → Prop} {R : V → V → Hp → Prop}
    (hh : rdg fa X.K TB W (rI X.K TB) (f >>= fun p => g >>= fun q => rd p >>= fun x => rd q >>= fun y => k x y) σ H Q)
    (fin : ∀ dx dy x y H2 env2 A2 L, RdR X.K H2 dx x → RdR X.K H2 dy y → ES fa X.K H2 env2 σ A2 → (A2 ++ L).Nodup → LamX.Tabs TB H2 → Cont fa X.K TB W (rI X.K TB) σ (A2 ++ L) H2 (k dx dy env2) Q → R x y H2) :
    rdg fa X.K TB W (rP fa X.K) f σ H fun x H1 => rdg fa X.K TB W (rP fa X.K) g σ H1 fun y H2 => R x y H2 :=
  seq0 hh fun p x H1 env1 A1 B1 es1 r1 nd1 tb1 c1 => seqT es1 nd1 tb1 (rP.lsts r1) c1 fun q y H2 env2 A2 B2 s2 es2 r2 nd2 k2 tb2 c2 => by
    obtain ⟨dx, h1, _, c3⟩ := rd_ok es2 (r1.mono s2.le k2) c2
    obtain ⟨dy, h2, _, c4⟩ := rd_ok es2 r2 c3
    exact fin dx dy x y H2 env2 A2 _ h1 h2 es2 nd2 tb2 c4
theorem di_rng2 {tg : Expr} {f g : M Pn} (hg : Gl X "range") (hm : X.mg "range" = none) (ha : DP fa TB W X a f) (hb : DP fa TB W X b g) (hn : noStar [a, b] = true) :
    DI fa TB W X tg (.Call (.Name "range" p) [a, b] [] pos) (f >>= fun p => g >>= fun q => rd p >>= fun x => rd q >>= fun y => M.of (rngD2 x y)) :=
  (pi_range2 hg hm (pa_cons ha (pa_cons hb pa_nil (star_cons (noStar_tail hn))) (star_cons hn)) (by rw [star_cons hn, star_cons (noStar_tail hn)]; rfl) (by rw [star_cons (noStar_tail hn)]; rfl)).imp fun σ H R hh =>
    seq2I hh fun dx dy x y H2 env2 A2 L h1 h2 es2 nd2 tb2 c => by
      obtain ⟨l, e1, c3⟩ := of_end c
      unfold rngD2 at e1
      split at e1
      · rename_i i j
        split at e1
        · rename_i hb
          cases e1
          obtain rfl := h1.int
          obtain rfl := h2.int
          exact ⟨i, j, rfl, hb, Cont.walk es2 nd2 c3 (walks_range (lo := i) (hi := j))⟩
        · cases e1
      · cases e1
/-- over a list or a tuple -/
def iSeq (K : PySem.W.Frag) (tl : TE) : TI := fun σ H R => tl σ H fun x H1 => ∃ a, x = .ref a ∧ (((∃ xs, SqL K H1 a xs) ∧ R (Itl K a) H1) ∨ ((∃ xs, SqT K H1 a xs) ∧ R (Itt K a) H1))
theorem pi_seq {tg l : Expr} {tl : TE} (hl : PE X l tl) : PI X tg l (iSeq X.K tl) := by
  refine ⟨fun pins s σ H R I h => ?_⟩
  refine thn (hl.run pins s σ H _ I h) fun v s1 ⟨x, H1, I1, r1, q1⟩ => ?_
  obtain ⟨a, e, q⟩ := q1
  subst e
  cases r1
  have fp1 : ∀ b ∈ [s1.heap.objs.size], FpOk X pins H1 b := fun b hb => by
    have e : b = s1.heap.objs.size := by simpa using hb
    subst e
    exact I1.fpOk (Nat.le_refl _) (I1.hok.fresh (Nat.le_refl _))
  rcases q with ⟨⟨xs, hq⟩, q⟩ | ⟨⟨xs, hq⟩, q⟩
  · obtain ⟨its, rv, p, hz⟩ := I1.list hq
    exact wpAny_pyIter_list p.isList ⟨s1.heap.objs.size, [s1.heap.objs.size], _, _, H1, rfl, I1.kept (t' := s1.toks) fun b o e => Heap.get?_push_of_some _ e, turn_list a _, ⟨_, Heap.get?_push_size _ rfl, rfl, rfl⟩, fp1, q⟩
  · obtain ⟨its, rv, p, hz⟩ := I1.tuple hq
    exact wpAny_pyIter_tuple (show s1.heap.IsTuple a its.toArray from p) ⟨s1.heap.objs.size, [s1.heap.objs.size], _, _, H1, rfl, I1.kept (t' := s1.toks) fun b o e => Heap.get?_push_of_some _ e, turn_tuple a _, ⟨_, Heap.get?_push_size _ rfl, rfl, rfl⟩, fp1, q⟩
theorem walks_list {K : PySem.W.Frag} {H : Hp} {a : Addr} {vs : List V} {ds : List PyData} (h : FzL K H a vs) (r : RepAll K H ds vs) : WalksD K TB (Itl K a) ds H := by
  refine ⟨fun i H' hi l => ?_, fun i H' x H2 l hi hy => ?_, fun i H' hi l => ⟨vs, (l.fz h).sq, by rw [r.len]; exact hi⟩⟩
  · obtain ⟨v, e, _⟩ := r.get (List.getElem?_eq_getElem hi)
    exact ⟨vs, v, (l.fz h).sq, e⟩
  · obtain ⟨rfl, hx⟩ := hy
    obtain ⟨v, e, r1⟩ := r.get (List.getElem?_eq_getElem hi)
    have := hx vs (l.fz h).sq
    rw [e] at this
    cases this
    exact ⟨Step.refl _ _, _, List.getElem?_eq_getElem hi, r1.mono l _⟩
theorem walks_tup {K : PySem.W.Frag} {H : Hp} {a : Addr} {vs : List V} {ds : List PyData} (h : SqT K H a vs) (r : RepAll K H ds vs) : WalksD K TB (Itt K a) ds H := by
  refine ⟨fun i H' hi l => ?_, fun i H' x H2 l hi hy => ?_, fun i H' hi l => ⟨vs, l.tp h, by rw [r.len]; exact hi⟩⟩
  · obtain ⟨v, e, _⟩ := r.get (List.getElem?_eq_getElem hi)
    exact ⟨vs, v, l.tp h, e⟩
  · obtain ⟨rfl, hx⟩ := hy
    obtain ⟨v, e, r1⟩ := r.get (List.getElem?_eq_getElem hi)
    have := hx vs (l.tp h)
    rw [e] at this
    cases this
    exact ⟨Step.refl _ _, _, List.getElem?_eq_getElem hi, r1.mono l _⟩
/-- behind a value: it is frozen, then the end -/
theorem freeze_end {α β : Type} {rep : RepT α β} {σ : L2.St} {H1 : Hp} {env1 : DEnv} {A1 B1 : List Addr} {o : O} {v : V} {k : PyData → M α} {Q : β → Hp → Prop} {R : Hp → Prop} (es1 : ES fa X.K H1 env1 σ A1) (r1 : ORep fa X.K H1 o v B1) (nd1 : (A1 ++ B1).Nodup) (tb1 : LamX.Tabs TB H1)
    (c1 : Cont fa X.K TB W rep σ (A1 ++ B1) H1 ((toD o >>= k) env1) Q)
    (fin : ∀ d H2, o.fz = some d → Step TB B1 H1 H2 → Rep X.K H2 d v → ES fa X.K H2 env1 σ A1 → A1.Nodup → LamX.Tabs TB H2 → Cont fa X.K TB W rep σ A1 H2 (k d env1) Q → R H2) : LkQ R H1 := by
  obtain ⟨d, e, c2⟩ := of_ok (o := o.fz) c1
  obtain ⟨n1, n2, n3⟩ := List.nodup_append.mp nd1
  refine fz_lk (TB := TB) o r1 e n2 fun H2 s k2 r2 => ?_
  refine fin d H2 e s r2 (es1.mono s.le fun a ha xs q => by rw [k2 a fun z => n3 a ha a z rfl]; exact q) n1 (s.tabs tb1) (c2.move (s.wide fun a ha => List.mem_append_right _ ha) fun a ha => .inl (List.mem_append_left _ ha))
theorem di_it {tg : Expr} {f : M O} (he : DE fa TB W X e f) : DI fa TB W X tg e (f >>= fun o => toD o >>= fun d => M.of (itD d)) :=
  (postI (pi_seq he)).imp fun σ H R hh => seq0 hh fun o v H1 env1 A1 B1 es1 r1 nd1 tb1 c1 => by
    have c0 := c1
    obtain ⟨d, e1, c2⟩ := of_ok (o := o.fz) c0
    obtain ⟨l, e2, _⟩ := of_end c2
    have hd := ORep.dp o r1 e1
    unfold itD at e2
    split at e2
    · cases e2
      cases hd with
      | lst hs ha =>
        refine ⟨_, rfl, .inl ⟨⟨_, hs⟩, freeze_end es1 r1 nd1 tb1 c1 fun d' H2 e3 s2 r2 es2 n2 tb2 c3 => ?_⟩⟩
        rw [e1] at e3
        cases e3
        simp only [Rep] at r2
        obtain ⟨a', vs, ea, h3, h4⟩ := r2
        cases ea
        exact Cont.walk (L := []) es2 (by simpa using n2) (by rw [List.append_nil]; exact c3) (walks_list h3 h4)
    · cases e2
      cases hd with
      | tup hs ha =>
        refine ⟨_, rfl, .inr ⟨⟨_, hs⟩, freeze_end es1 r1 nd1 tb1 c1 fun d' H2 e3 s2 r2 es2 n2 tb2 c3 => ?_⟩⟩
        rw [e1] at e3
        cases e3
        simp only [Rep] at r2
        obtain ⟨a', vs, ea, h3, h4⟩ := r2
        cases ea
        exact Cont.walk (L := []) es2 (by simpa using n2) (by rw [List.append_nil]; exact c3) (walks_tup h3 h4)
    · cases e2
theorem zip_get {xs ys : List PyData} {i : Nat} {x y : PyData} (h1 : xs[i]? = some x) (h2 : ys[i]? = some y) : (zipD xs ys)[i]? = some (.tuple [x, y]) := by
  unfold zipD
  rw [List.getElem?_map, List.getElem?_zip_eq_some (z := (x, y)) |>.mpr ⟨h1, h2⟩]
  rfl
theorem walks_zip {K : PySem.W.Frag} {H : Hp} {a b : Addr} {vs us : List V} {ds es : List PyData} (h : FzL K H a vs) (r : RepAll K H ds vs) (h2 : FzL K H b us) (r2 : RepAll K H es us) : WalksD K TB (Itz K a b) (zipD ds es) H := by
  have hl : (zipD ds es).length = min ds.length es.length := by simp [zipD]
  refine ⟨fun i H' hi l => ?_, fun i H' x H2 l hi hy => ?_, fun i H' hi l => ⟨vs, us, (l.fz h).sq, (l.fz h2).sq, by rw [r.len, r2.len]; omega⟩⟩
  · obtain ⟨v, e, _⟩ := r.get (List.getElem?_eq_getElem (show i < ds.length by omega))
    obtain ⟨u, e', _⟩ := r2.get (List.getElem?_eq_getElem (show i < es.length by omega))
    exact ⟨vs, us, v, u, (l.fz h).sq, (l.fz h2).sq, e, e'⟩
  · obtain ⟨T, x1, x2, rfl, nT, rfl, f1, f2⟩ := hy
    have g1 := List.getElem?_eq_getElem (show i < ds.length by omega)
    have g2 := List.getElem?_eq_getElem (show i < es.length by omega)
    obtain ⟨v, e, q1⟩ := r.get g1
    obtain ⟨u, e', q2⟩ := r2.get g2
    have := f1 vs (l.fz h).sq
    rw [e] at this; cases this
    have := f2 us (l.fz h2).sq
    rw [e'] at this; cases this
    have s : Step TB [] H' (upd H' T (.tup [x1, x2])) := Step.new nT
    refine ⟨s, _, zip_get g1 g2, ?_⟩
    simp only [Rep, RepAll]
    exact ⟨T, _, rfl, SqT.of upd_same, x1, _, rfl, q1.mono (l.trans s.le) _, x2, [], rfl, q2.mono (l.trans s.le) _, rfl⟩
theorem walks_zipT {K : PySem.W.Frag} {H : Hp} {a b : Addr} {vs us : List V} {ds es : List PyData} (h : SqT K H a vs) (r : RepAll K H ds vs) (h2 : SqT K H b us) (r2 : RepAll K H es us) : WalksD K TB (RZ.ItzT K a b) (zipD ds es) H := by
  have hl : (zipD ds es).length = min ds.length es.length := by simp [zipD]
  refine ⟨fun i H' hi l => ?_, fun i H' x H2 l hi hy => ?_, fun i H' hi l => ⟨vs, us, l.tp h, l.tp h2, by rw [r.len, r2.len]; omega⟩⟩
  · obtain ⟨v, e, _⟩ := r.get (List.getElem?_eq_getElem (show i < ds.length by omega))
    obtain ⟨u, e', _⟩ := r2.get (List.getElem?_eq_getElem (show i < es.length by omega))
    exact ⟨vs, us, v, u, l.tp h, l.tp h2, e, e'⟩
  · obtain ⟨T, x1, x2, rfl, nT, rfl, f1, f2⟩ := hy
    have g1 := List.getElem?_eq_getElem (show i < ds.length by omega)
    have g2 := List.getElem?_eq_getElem (show i < es.length by omega)
    obtain ⟨v, e, q1⟩ := r.get g1
    obtain ⟨u, e', q2⟩ := r2.get g2
    have := f1 vs (l.tp h)
    rw [e] at this; cases this
    have := f2 us (l.tp h2)
    rw [e'] at this; cases this
    have s : Step TB [] H' (upd H' T (.tup [x1, x2])) := Step.new nT
    refine ⟨s, _, zip_get g1 g2, ?_⟩
    simp only [Rep, RepAll]
    exact ⟨T, _, rfl, SqT.of upd_same, x1, _, rfl, q1.mono (l.trans s.le) _, x2, [], rfl, q2.mono (l.trans s.le) _, rfl⟩
theorem di_zip {elts : List Expr} {kk : Nat} {tpos : Pos} {f : M (List O)} (hg : Gl X "zip") (hm : X.mg "zip" = none) (ha : DA fa TB W X [a, b] f) (hn : noStar [a, b] = true) :
    DI fa TB W X (.Tuple elts kk tpos) (.Call (.Name "zip" p) [a, b] [] pos) (f >>= fun os => fzAllM os >>= fun ds => M.of (zipL ds)) :=
  (postI (RZ.pi_zipA hg hm ha (star_cons hn) (star_plain (noStar_tail hn)))).imp fun σ H R hh => seq0 hh fun os vs H1 env1 A1 B1 es1 r1 nd1 tb1 c1 => by
    obtain ⟨ds, e1, c2⟩ := of_ok (o := O.fzAll os) c1
    obtain ⟨l, e2, c3⟩ := of_end c2
    have hd := ORepAll.dp os r1 e1
    obtain ⟨n1, n2, n3⟩ := List.nodup_append.mp nd1
    have fin : ∀ (J : L2.It), (∀ H2, RepAll X.K H2 ds vs → WalksD X.K TB J l H2) → LkQ (R J) H1 := fun J w => by
      refine fz_lks (TB := TB) os r1 e1 n2 fun H2 s k2 r2 => ?_
      have es2 : ES fa X.K H2 env1 σ A1 := es1.mono s.le fun a ha xs q => by rw [k2 a fun z => n3 a ha a z rfl]; exact q
      have c4 := Cont.move (L := A1) c3 (s.wide fun a ha => List.mem_append_right _ ha) fun a ha => .inl (List.mem_append_left _ ha)
      exact Cont.walk (L := []) es2 (by simpa using n1) (by rw [List.append_nil]; exact c4) (w H2 r2)
    unfold zipL at e2
    split at e2
    · cases e2
      cases hd with
      | cons d1 d2 =>
        cases d2 with
        | cons d2 d3 =>
          cases d3
          cases d1 with
          | lst s1 a1 =>
            cases d2 with
            | lst s2 a2 =>
              refine ⟨_, _, _, _, rfl, .inl ⟨s1, s2, fin _ fun H2 r2 => ?_⟩⟩
              simp only [RepAll, Rep] at r2
              obtain ⟨v1, q1, e3, ⟨b1, us1, e4, f1, g1⟩, v2, q2, e5, ⟨b2, us2, e6, f2, g2⟩, e7⟩ := r2
              cases e3
              cases e5
              cases e4
              cases e6
              exact walks_zip f1 g1 f2 g2
    · cases e2
      cases hd with
      | cons d1 d2 =>
        cases d2 with
        | cons d2 d3 =>
          cases d3
          cases d1 with
          | tup s1 a1 =>
            cases d2 with
            | tup s2 a2 =>
              refine ⟨_, _, _, _, rfl, .inr ⟨s1, s2, fin _ fun H2 r2 => ?_⟩⟩
              simp only [RepAll, Rep] at r2
              obtain ⟨v1, q1, e3, ⟨b1, us1, e4, f1, g1⟩, v2, q2, e5, ⟨b2, us2, e6, f2, g2⟩, e7⟩ := r2
              cases e3
              cases e5
              cases e4
              cases e6
              exact walks_zipT f1 g1 f2 g2
    · cases e2
end
end DL
namespace DL
open PySem PySem.Spec PyProof.Rows L2

theorem wipe_get {σ : L2.St} : ∀ {own : List Nat} {i : Nat}, (wipe σ own)[i]? = if i ∈ own ∧ i < σ.length then some none else σ[i]?
  | [], i => by simp [wipe]
  | v :: vs, i => by
    unfold wipe
    by_cases h : v = i
    · subst h
      by_cases hl : v < σ.length
      · rw [List.getElem?_set_self (by rw [wipe_length]; exact hl), if_pos ⟨by simp, hl⟩]
      · rw [if_neg fun z => hl z.2, List.getElem?_eq_none (by rw [List.length_set, wipe_length]; omega), List.getElem?_eq_none (by omega)]
    · rw [List.getElem?_set_ne h, wipe_get (own := vs) (i := i)]
      have : (i ∈ v :: vs) ↔ i ∈ vs := by simp [Ne.symm h]
      simp only [this]
theorem wipe_eq {σ σ' : L2.St} {own : List Nat} (hl : σ'.length = σ.length) (h : ∀ i, i ∉ own → σ'[i]? = σ[i]?) : wipe σ' own = wipe σ own := by
  apply List.ext_getElem?
  intro i
  rw [wipe_get, wipe_get, hl]
  by_cases hi : i ∈ own
  · by_cases hl2 : i < σ.length
    · rw [if_pos ⟨hi, hl2⟩, if_pos ⟨hi, hl2⟩]
    · rw [if_neg fun z => hl2 z.2, if_neg fun z => hl2 z.2, List.getElem?_eq_none (by omega), List.getElem?_eq_none (by omega)]
  · rw [if_neg fun z => hi z.1, if_neg fun z => hi z.1, h i hi]
theorem wipe_wipe {σ : L2.St} {own : List Nat} : wipe (wipe σ own) own = wipe σ own := wipe_eq (wipe_length σ own) fun i hi => by rw [wipe_get, if_neg fun z => hi z.1]
theorem wipeE_get {e : DEnv} : ∀ {own : List Nat} {i : Nat}, (wipeE e own)[i]? = e[i]? ∨ (wipeE e own)[i]? = some none
  | [], i => .inl rfl
  | v :: vs, i => by
    unfold wipeE
    by_cases h : v = i
    · subst h
      by_cases hl : v < (wipeE e vs).length
      · exact .inr (List.getElem?_set_self hl)
      · rcases wipeE_get (e := e) (own := vs) (i := v) with q | q
        · left
          rw [List.getElem?_eq_none (by rw [List.length_set]; omega), ← q, List.getElem?_eq_none (by omega)]
        · rw [List.getElem?_eq_none (by omega)] at q; cases q
    · rw [List.getElem?_set_ne h]
      exact wipeE_get
section
variable {fa : List Addr} {TB : List (Addr × Str)} {W : Exc → Hp → Prop} {X : Cx} {e a b : Expr} {ns es : List Expr} {pos p p2 : Pos} {K : PySem.W.Frag}
theorem isVal_rep {H : Hp} {oo : Option O} {y : Option V} {B : List Addr} (hv : isVal (some oo) = true) (h1 : ∀ o, oo = some o → ∃ v, y = some v ∧ ORep fa K H o v B) (h2 : oo = none → B = []) : B = [] := by
  cases oo with
  | none => exact h2 rfl
  | some o =>
    obtain ⟨v, _, r⟩ := h1 o rfl
    cases o with
    | val d => simp only [ORep] at r; exact r.1
    | fn j => simp only [ORep] at r; exact r.1
    | lst xs => simp [isVal] at hv
theorem wipe_es {H : Hp} {σ : L2.St} {env : DEnv} {A : List Addr} (es : ES fa K H env σ A) : ∀ {own : List Nat}, own.all (fun i => isVal env[i]?) = true → ES fa K H (wipeE env own) (wipe σ own) A
  | [], _ => es
  | v :: vs, hv => by
    simp only [List.all_cons, Bool.and_eq_true] at hv
    have ih := wipe_es es (own := vs) hv.2
    unfold wipeE wipe
    have hv' : isVal (wipeE env vs)[v]? = true := by
      rcases wipeE_get (e := env) (own := vs) (i := v) with q | q
      · rw [q]; exact hv.1
      · rw [q]; rfl
    cases hq : (wipeE env vs)[v]? with
    | none => rw [hq] at hv'; simp [isVal] at hv'
    | some oo =>
      rw [hq] at hv'
      obtain ⟨A1, B, A2, y, hA, hs, h1, h2, hset⟩ := ih.slot hq
      obtain rfl := isVal_rep hv' h1 h2
      have := hset H none none [] (Le.refl H) (fun a ha xs e => e) (fun o z => by cases z) (fun _ => rfl)
      rw [hA]
      simpa using this
/-- as they were -/
theorem rest_es {H H1 : Hp} {σ : L2.St} {env0 : DEnv} {A0 : List Addr} (es0 : ES fa K H1 env0 σ A0) (l : Le H1 H) : ∀ {own : List Nat} {env : DEnv} {A : List Addr}, own.Nodup → own.all (fun i => isVal env0[i]?) = true → ES fa K H env (wipe σ own) A → A.Nodup →
    ∃ A', ES fa K H (restE env env0 own) σ A' ∧ A'.Nodup ∧ ∀ a ∈ A', a ∈ A
  | [], env, A, _, _, es, nd => ⟨A, es, nd, fun _ h => h⟩
  | v :: vs, env, A, hn, hv, es, nd => by
    obtain ⟨hn1, hn2⟩ := List.nodup_cons.mp hn
    simp only [List.all_cons, Bool.and_eq_true] at hv
    cases hq : env0[v]? with
    | none => rw [hq] at hv; simp [isVal] at hv
    | some oo =>
      have hv1 := hv.1
      rw [hq] at hv1
      obtain ⟨C1, B0, C2, y, hA0, hs0, h1, h2, _⟩ := es0.slot hq
      obtain rfl := isVal_rep hv1 h1 h2
      have hl : v < env.length := by
        have e1 := es.len
        have e2 := (List.getElem?_eq_some_iff.mp hs0).1
        rw [wipe_length] at e1
        omega
      obtain ⟨A1, B, A2, y1, hA, _, _, _, hset⟩ := es.slot (List.getElem?_eq_getElem hl)
      subst hA
      obtain ⟨n1, n2, n3⟩ := nodup_mid nd
      have es1 := hset H oo y [] (Le.refl H) (fun a ha xs e => e) (fun o z => by
        obtain ⟨v', rfl, r⟩ := h1 o z
        exact ⟨v', rfl, ORep.mono l o r (by simp)⟩) (fun _ => rfl)
      have e : ((wipe σ (v :: vs)).set v y) = wipe σ vs := by
        show ((wipe σ vs).set v none).set v y = wipe σ vs
        rw [List.set_set]
        refine set_same ?_
        rw [wipe_get, if_neg fun z => hn1 z.1, hs0]
      rw [e] at es1
      unfold restE
      rw [hq]
      obtain ⟨A', es2, nd2, m2⟩ := rest_es es0 l (own := vs) hn2 hv.2 es1 (by simpa using n1)
      refine ⟨A', es2, nd2, fun a ha => ?_⟩
      have := m2 a ha
      simp only [List.nil_append, List.mem_append] at this ⊢
      rcases this with z | z <;> simp [z]
theorem compD_cons {st : PyData → M Unit} {test : M Bool} {elt : M O} {own : List Nat} {d : PyData} {ds : List PyData} {env e' : DEnv} {os : List O} (h : compD st test elt own (d :: ds) env = .ok os e') :
    ∃ env1 b env2, st d env = .ok () env1 ∧ test env1 = .ok b env2 ∧ ((b = true ∧ ∃ o env3 os', elt env2 = .ok o env3 ∧ own.all (fun i => isVal env3[i]?) = true ∧ compD st test elt own ds (wipeE env3 own) = .ok os' e' ∧ os = o :: os') ∨
      (b = false ∧ own.all (fun i => isVal env2[i]?) = true ∧ compD st test elt own ds (wipeE env2 own) = .ok os e')) := by
  unfold compD at h
  simp only [M.bind_def] at h
  cases h1 : st d env with
  | stuck => rw [h1] at h; cases h
  | exc x e => rw [h1] at h; cases h
  | ok u env1 =>
    rw [h1] at h
    simp only at h
    cases h2 : test env1 with
    | stuck => rw [h2] at h; cases h
    | exc x e => rw [h2] at h; cases h
    | ok b env2 =>
      rw [h2] at h
      simp only at h
      refine ⟨env1, b, env2, rfl, h2, ?_⟩
      cases b with
      | true =>
        rw [if_pos rfl] at h
        simp only [M.bind_def] at h
        cases h3 : elt env2 with
        | stuck => rw [h3] at h; cases h
        | exc x e => rw [h3] at h; cases h
        | ok o env3 =>
          rw [h3] at h
          simp only [wipeM] at h
          by_cases hv : own.all (fun i => isVal env3[i]?) = true
          · rw [if_pos hv] at h
            simp only at h
            cases h4 : compD st test elt own ds (wipeE env3 own) with
            | stuck => rw [h4] at h; cases h
            | exc x e => rw [h4] at h; cases h
            | ok os' e4 =>
              rw [h4] at h
              simp only [M.pure_def] at h
              cases h
              exact .inl ⟨rfl, o, env3, os', rfl, hv, h4, rfl⟩
          · rw [if_neg hv] at h; cases h
      | false =>
        rw [if_neg Bool.false_ne_true] at h
        simp only [M.bind_def, wipeM] at h
        by_cases hv : own.all (fun i => isVal env2[i]?) = true
        · rw [if_pos hv] at h
          exact .inr ⟨rfl, hv, h⟩
        · rw [if_neg hv] at h; cases h
/-! ### comprehensions -/
theorem comp_read {own' : List (Str × Nat)} {t : Tg} {fI : M (List PyData)} {fT : M Bool} {fE : M O} (hsub : ∀ i ∈ tgSlots t, i ∈ own'.map (·.2)) (hnd : (own'.map (·.2)).Nodup) {σ : L2.St} {H : Hp} {Q : VK}
    (hh : rdg fa X.K TB W (rO fa X.K) (fI >>= fun ds => blockM (own'.map (·.2)) (compD (asgD t) fT fE (own'.map (·.2)) ds) >>= fun os => M.of (if os.length ≤ sizeLine then some (.lst os) else none)) σ H Q) :
    tLc (rdg fa X.K TB W (rI X.K TB) fI) (gDr fa X.K TB t) (rdg fa X.K TB (fun _ _ => False) rB fT) (rdg fa X.K TB (fun _ _ => False) (rO fa X.K) fE) (own'.map (·.2)) σ H Q := by
  refine seq0 hh fun ds J H1 env1 A1 B1 es1 r1 nd1 tb1 c1 => fun D hD => ?_
  obtain ⟨rfl, wk⟩ := r1
  rw [List.append_nil] at c1 nd1
  generalize hown : own'.map (·.2) = own at *
  rw [M.bind_def] at c1
  unfold blockM at c1
  by_cases hv : own.all (fun i => isVal env1[i]?) = true
  · rw [if_pos hv] at c1
    cases hrun : compD (asgD t) fT fE own ds (wipeE env1 own) with
    | stuck => rw [hrun] at c1; exact c1.elim
    | exc x e => rw [hrun] at c1; exact c1.elim
    | ok os e' =>
      rw [hrun] at c1
      simp only at c1
      obtain ⟨o, e2, c2⟩ := of_end c1
      split at e2
      · rename_i hz
        cases e2
        refine ⟨fun i m H => ∃ acc accO envi Ai Bi osr, m = ds.length - i ∧ i ≤ ds.length ∧ ES fa X.K H envi (wipe σ own) Ai ∧ (Ai ++ (D :: Bi)).Nodup ∧ H D = some (.lst acc) ∧ ORepAll fa X.K H accO acc Bi ∧ LamX.Tabs TB H ∧ Step TB A1 H1 H ∧ Fresh A1 H1 (Ai ++ (D :: Bi)) ∧
            compD (asgD t) fT fE own (ds.drop i) envi = .ok osr e' ∧ os = accO ++ osr, ⟨ds.length, ?_⟩, ?_⟩
        · have s1 : Step TB A1 H1 (upd H1 D (.lst [])) := Step.new hD
          have nD : D ∉ A1 := fun z => by
            obtain ⟨xs, q⟩ := es1.lsts D z
            rw [hD] at q; cases q
          refine ⟨[], [], wipeE env1 own, A1, [], os, by simp, Nat.zero_le _, (wipe_es es1 hv).mono s1.le fun a ha xs q => ?_, ?_, upd_same, (show ORepAll fa X.K _ [] [] [] from ⟨rfl, rfl⟩), s1.tabs tb1, s1, fun a ha => ?_, by simpa using hrun, rfl⟩
          · rw [upd_ne fun z => nD (by rw [← z]; exact ha)]; exact q
          · refine List.nodup_append.mpr ⟨nd1, by simp, fun x hx y hy z => ?_⟩
            have : y = D := by simpa using hy
            exact nD (this ▸ z ▸ hx)
          · rcases List.mem_append.mp ha with ha | ha
            · exact .inl ha
            · have : a = D := by simpa using ha
              rw [this]; exact .inr hD
        · rintro i m H ⟨acc, accO, envi, Ai, Bi, osr, rfl, hi', esi, ndi, hDi, ri, tbi, si, fi, hrest, hos⟩
          by_cases hlt : i < ds.length
          · refine .inr ⟨wk.go i H hlt si.le, fun H' => ∃ acc accO envi Ai Bi osr, i + 1 ≤ ds.length ∧ ES fa X.K H' envi (wipe σ own) Ai ∧ (Ai ++ (D :: Bi)).Nodup ∧ H' D = some (.lst acc) ∧ ORepAll fa X.K H' accO acc Bi ∧ LamX.Tabs TB H' ∧ Step TB A1 H1 H' ∧ Fresh A1 H1 (Ai ++ (D :: Bi)) ∧
                compD (asgD t) fT fE own (ds.drop (i + 1)) envi = .ok osr e' ∧ os = accO ++ osr, ?_, ?_⟩
            · rintro H' ⟨acc, accO, envi, Ai, Bi, osr, q⟩
              exact ⟨ds.length - (i + 1), by omega, acc, accO, envi, Ai, Bi, osr, rfl, q⟩
            · intro x H' hy
              obtain ⟨sy, d, hd, rd⟩ := wk.yld i H x H' si.le hlt hy
              have hdrop : ds.drop i = d :: ds.drop (i + 1) := by
                rw [List.drop_eq_getElem_cons hlt]
                rw [List.getElem?_eq_getElem hlt] at hd
                cases hd; rfl
              rw [hdrop] at hrest
              obtain ⟨env1', b, env2, hst, htt, hbr⟩ := compD_cons hrest
              have kp : ∀ a ∈ Ai ++ (D :: Bi), ∀ xs, H a = some (.lst xs) → H' a = some (.lst xs) := fun a ha xs q => sy.keep a _ q (by simp) fun ps z => by cases z
              obtain ⟨nA, nDB, nX⟩ := List.nodup_append.mp ndi
              refine ⟨d, envi, Ai, rd, esi.mono sy.le fun a ha => kp a (List.mem_append_left _ ha), nA, sy.tabs tbi, env1', hst, fun σ2 A2 l2 f2 es2 n2 m2 => ⟨?_, ?_⟩⟩
              · rw [wipe_eq l2 fun j hj => f2 j fun z => hj (hsub j z)]
                exact wipe_wipe
              · have hw : wipe σ2 own = wipe σ own := by
                  rw [wipe_eq l2 fun j hj => f2 j fun z => hj (hsub j z)]
                  exact wipe_wipe
                have hDL : ∀ x ∈ D :: Bi, ∃ xs, H' x = some (.lst xs) := fun x hx => by
                  rcases List.mem_cons.mp hx with rfl | hx
                  · exact ⟨_, kp _ (by simp) _ hDi⟩
                  · obtain ⟨xs, q⟩ := ORepAll.lsts _ ri x hx
                    exact ⟨xs, kp _ (by simp [hx]) _ q⟩
                have nd2 : (A2 ++ (D :: Bi)).Nodup := List.nodup_append.mpr ⟨n2, nDB, fun x hx y hy z => nX x (m2 x hx) y hy z⟩
                have s02 : Step TB A1 H1 H' := si.trans fi (sy.wide (by simp))
                have f02 : Fresh A1 H1 (A2 ++ (D :: Bi)) := fun a ha => by
                  rcases List.mem_append.mp ha with ha | ha
                  · exact fi a (List.mem_append_left _ (m2 a ha))
                  · exact fi a (List.mem_append_right _ ha)
                refine ⟨env1', A2, es2, n2, sy.tabs tbi, ?_⟩
                rw [htt]
                intro b' H3 A3 B3 s3 es3 r3 nd3 f3
                obtain ⟨rfl, rfl⟩ := rB_eq r3
                rw [List.append_nil] at nd3 f3
                have lk3 := lsts_keep s3 hDL nd2
                have dA3 : ∀ x ∈ D :: Bi, x ∉ A3 := fun x hx z => by
                  obtain ⟨xs, q⟩ := hDL x hx
                  exact f3.not q (fun z => (List.nodup_append.mp nd2).2.2 x z x hx rfl) z
                have nd3' : (A3 ++ (D :: Bi)).Nodup := List.nodup_append.mpr ⟨nd3, nDB, fun x hx y hy z => dA3 y hy (z ▸ hx)⟩
                have s03 : Step TB A1 H1 H3 := s02.trans f02 (s3.wide fun a ha => List.mem_append_left _ ha)
                have f03 : Fresh A1 H1 (A3 ++ (D :: Bi)) := Fresh.trans s02 f02 fun a ha => by
                  rcases List.mem_append.mp ha with ha | ha
                  · exact (f3 a ha).imp (fun z => List.mem_append_left _ z) id
                  · exact .inl (List.mem_append_right _ ha)
                have hD3 : H3 D = some (.lst acc) := lk3 D (by simp) _ (kp D (by simp) _ hDi)
                have r3' : ORepAll fa X.K H3 accO acc Bi := ORepAll.mono (sy.le.trans s3.le) accO ri fun a ha xs q => lk3 a (by simp [ha]) _ (kp a (by simp [ha]) _ q)
                rcases hbr with ⟨rfl, o, env3, os', hel, hval, hrest', rfl⟩ | ⟨rfl, hval, hrest'⟩
                · rw [if_pos rfl]
                  refine ⟨env2, A3, es3, nd3, s3.tabs (sy.tabs tbi), ?_⟩
                  rw [hel]
                  intro y H4 A4 B4 s4 es4 r4 nd4 f4
                  have hDL3 : ∀ x ∈ D :: Bi, ∃ xs, H3 x = some (.lst xs) := fun x hx => by
                    obtain ⟨xs, q⟩ := hDL x hx
                    exact ⟨xs, lk3 x hx _ q⟩
                  have lk4 := lsts_keep s4 hDL3 nd3'
                  have hD4 : H4 D = some (.lst acc) := lk4 D (by simp) _ hD3
                  have dA4 : ∀ x ∈ D :: Bi, x ∉ A4 ++ B4 := fun x hx z => by
                    obtain ⟨xs, q⟩ := hDL3 x hx
                    exact f4.not q (dA3 x hx) z
                  obtain ⟨n41, n42, n43⟩ := List.nodup_append.mp nd4
                  have hlen : acc.length = accO.length := orepall_len ri
                  refine ⟨acc, hD4, ?_, ?_⟩
                  · rw [hlen]
                    rw [hos] at hz
                    simp only [List.length_append, List.length_cons] at hz
                    omega
                  · have s5 : Step TB [D] H4 (upd H4 D (.lst (acc ++ [y]))) := Step.lsts (fun b hb => by simp at hb; subst hb; exact ⟨_, hD4⟩) fun b hb => upd_ne (by simpa using hb)
                    have k5 : ∀ a, a ≠ D → ∀ xs, H4 a = some (.lst xs) → upd H4 D (.lst (acc ++ [y])) a = some (.lst xs) := fun a ha xs q => by rw [upd_ne ha]; exact q
                    have nDBi : D ∉ Bi := (List.nodup_cons.mp nDB).1
                    have s04 : Step TB A1 H1 H4 := s03.trans f03 (s4.wide fun a ha => List.mem_append_left _ ha)
                    have f04 : Fresh A1 H1 (A4 ++ (D :: (Bi ++ B4))) := Fresh.trans s03 f03 fun a ha => by
                      rcases List.mem_append.mp ha with ha | ha
                      · exact (f4 a (List.mem_append_left _ ha)).imp (fun z => List.mem_append_left _ z) id
                      · rcases List.mem_cons.mp ha with rfl | ha
                        · exact .inl (by simp)
                        · rcases List.mem_append.mp ha with ha | ha
                          · exact .inl (by simp [ha])
                          · exact (f4 a (List.mem_append_right _ ha)).imp (fun z => List.mem_append_left _ z) id
                    have es5 : ES fa X.K (upd H4 D (.lst (acc ++ [y]))) (wipeE env3 own) (wipe σ own) A4 := by
                      have := (wipe_es es4 hval).mono s5.le fun a ha => k5 a fun z => dA4 D (by simp) (by simp [← z, ha])
                      rwa [hw] at this
                    refine ⟨acc ++ [y], accO ++ [o], wipeE env3 own, A4, Bi ++ B4, os', hlt, es5, ?_, upd_same, ?_, s5.tabs (s4.tabs (s3.tabs (sy.tabs tbi))), s04.trans f04 (s5.wide fun a ha => by simp at ha; simp [ha]), f04, hrest', by rw [hos]; simp⟩
                    · refine List.nodup_append.mpr ⟨n41, List.nodup_cons.mpr ⟨fun z => ?_, List.nodup_append.mpr ⟨(List.nodup_cons.mp nDB).2, n42, fun x hx y hy z => dA4 x (by simp [hx]) (by simp [z, hy])⟩⟩, fun x hx y hy z => ?_⟩
                      · rcases List.mem_append.mp z with z | z
                        · exact nDBi z
                        · exact dA4 D (by simp) (by simp [z])
                      · subst z
                        rcases List.mem_cons.mp hy with hy | hy
                        · exact dA4 D (by simp) (by simp [← hy, hx])
                        · rcases List.mem_append.mp hy with hy | hy
                          · exact dA4 x (by simp [hy]) (by simp [hx])
                          · exact n43 x hx x hy rfl
                    · have q1 : ORepAll fa X.K (upd H4 D (.lst (acc ++ [y]))) accO acc Bi := ORepAll.mono (s4.le.trans s5.le) accO r3' fun a ha xs q => k5 a (fun z => nDBi (z ▸ ha)) _ (lk4 a (by simp [ha]) _ q)
                      have q2 : ORep fa X.K (upd H4 D (.lst (acc ++ [y]))) o y B4 := ORep.mono s5.le o r4 fun a ha => k5 a fun z => dA4 D (by simp) (by simp [← z, ha])
                      have q3 : ORepAll fa X.K (upd H4 D (.lst (acc ++ [y]))) [o] [y] B4 := by
                        simp only [ORepAll]
                        exact ⟨y, [], B4, [], rfl, by simp, q2, rfl, rfl⟩
                      exact orepall_app q1 q3
                · rw [if_neg Bool.false_ne_true]
                  have es5 : ES fa X.K H3 (wipeE env2 own) (wipe σ own) A3 := by
                    have := wipe_es es3 hval
                    rwa [hw] at this
                  exact ⟨acc, accO, wipeE env2 own, A3, Bi, osr, hlt, es5, nd3', hD3, r3', s3.tabs (sy.tabs tbi), s03, f03, hrest', hos⟩
          · have e : i = ds.length := by omega
            subst e
            refine .inl ⟨wk.stop _ H (Nat.le_refl _) si.le, ?_⟩
            rw [List.drop_length] at hrest
            have hq : (R.ok [] envi : R (List O)) = R.ok osr e' := hrest
            cases hq
            rw [List.append_nil] at hos
            subst hos
            obtain ⟨nA, nDB, nX⟩ := List.nodup_append.mp ndi
            obtain ⟨A', es', nd', m'⟩ := rest_es es1 si.le hnd hv esi nA
            refine c2 (.ref D) H A' (D :: Bi) si es' (show ORep fa X.K H (.lst os) (.ref D) (D :: Bi) from ⟨D, acc, Bi, rfl, rfl, hDi, ri⟩) (List.nodup_append.mpr ⟨nd', nDB, fun x hx y hy z => nX x (m' x hx) y hy z⟩) fun a ha => ?_
            rcases List.mem_append.mp ha with ha | ha
            · exact fi a (List.mem_append_left _ (m' a ha))
            · exact fi a (List.mem_append_right _ ha)
      · cases e2
  · rw [if_neg hv] at c1; exact c1.elim
theorem de_comp {elt tg iter : Expr} {ifs : List Expr} {scope : Scope} {own' : List (Str × Nat)} {t : Tg} {fI : M (List PyData)} {fT : M Bool} {fE : M O} (hc : X.calm = true) (hN : X.N.Nodup) (hi : DI fa TB W X tg iter fI) (ok : BlkOk X.N X.env.scope scope own')
    (hg : ∀ (s : Shared) (H : Hp) (C : Addr) (cl : List (Str × Addr)) (fp : List Addr), PG (X.blk s H scope (compEnvC scope cl C X.env) fp) tg (gDr fa X.K TB t))
    (ht : ∀ (s : Shared) (H : Hp) (C : Addr) (cl : List (Str × Addr)) (fp : List Addr), PTs (X.blk s H scope (compEnvC scope cl C X.env) fp) ifs (rdg fa X.K TB (fun _ _ => False) rB fT))
    (he : ∀ (s : Shared) (H : Hp) (C : Addr) (cl : List (Str × Addr)) (fp : List Addr), DE fa TB (fun _ _ => False) (X.blk s H scope (compEnvC scope cl C X.env) fp) elt fE)
    (hs : ∀ x, foldedSetIterable iter X.env x = pure x) (hsub : ∀ i ∈ tgSlots t, i ∈ own'.map (·.2)) (hnd : (own'.map (·.2)).Nodup) :
    DE fa TB W X (.ListComp elt [⟨tg, iter, ifs, 0⟩] scope pos) (fI >>= fun ds => blockM (own'.map (·.2)) (compD (asgD t) fT fE (own'.map (·.2)) ds) >>= fun os => M.of (if os.length ≤ sizeLine then some (.lst os) else none)) :=
  (pe_lc (te := rdg fa X.K TB (fun _ _ => False) (rO fa X.K) fE) hc hN hi ok hg ht he hs).imp fun σ H Q hh => comp_read hsub hnd hh
end
end DL
namespace DL
open PySem PySem.Spec PyProof.Rows L2
section
variable (fa : List Addr) (K : PySem.W.Frag) (TB : List (Addr × Str)) (W : Exc → Hp → Prop) (n : Nat)
def AgreeS (n : Nat) (σ σ' : L2.St) : Prop := σ'.length = σ.length ∧ ∀ i, i < n → σ'[i]? = σ[i]?
def ContS (σ : L2.St) (A : List Addr) (H : Hp) (r : SR) (D : L2.Ends) : Prop := match r with
  | .nx e => ∀ σ' H' A', AgreeS n σ σ' → Step TB A H H' → ES fa K H' e σ' A' → A'.Nodup → Fresh A H A' → D.nx σ' H'
  | .bk e => ∀ σ' H' A', AgreeS n σ σ' → Step TB A H H' → ES fa K H' e σ' A' → A'.Nodup → Fresh A H A' → D.bk σ' H'
  | .ct e => ∀ σ' H' A', AgreeS n σ σ' → Step TB A H H' → ES fa K H' e σ' A' → A'.Nodup → Fresh A H A' → D.ct σ' H'
  | .rt o e => ∀ v σ' H' A' B, AgreeS n σ σ' → Step TB A H H' → ES fa K H' e σ' A' → ORep fa K H' o v B → (A' ++ B).Nodup → Fresh A H (A' ++ B) → D.rt v H'
  | .exc x _ => ∀ H', Step TB A H H' → W x H'
  | .stuck => False
def rdS (f : DEnv → SR) : TS := fun D σ H => ∃ env A, ES fa K H env σ A ∧ A.Nodup ∧ LamX.Tabs TB H ∧ ContS fa K TB W n σ A H (f env) D
end
section
variable {fa : List Addr} {K : PySem.W.Frag} {TB : List (Addr × Str)} {W : Exc → Hp → Prop} {n : Nat} {α β : Type} {rep : RepT α β} {σ σ1 : L2.St} {A Bt L : List Addr} {H H1 : Hp}
theorem AgreeS.refl : AgreeS n σ σ := ⟨rfl, fun _ _ => rfl⟩
theorem AgreeS.trans {σ2 : L2.St} (a : AgreeS n σ σ1) (b : AgreeS n σ1 σ2) : AgreeS n σ σ2 := ⟨b.1.trans a.1, fun i h => (b.2 i h).trans (a.2 i h)⟩
theorem AgreeS.set {i : Nat} {y : Option V} (h : n ≤ i) : AgreeS n σ (σ.set i y) := ⟨by simp, fun j hj => by rw [List.getElem?_set_ne (by omega)]⟩
theorem ContS.move {r : SR} {D : L2.Ends} (c : ContS fa K TB W n σ A H r D) (g : AgreeS n σ σ1) (st : Step TB A H H1) (fr : Fresh A H L) : ContS fa K TB W n σ1 L H1 r D := by
  cases r with
  | nx e => exact fun σ' H' A' a s e nd f => c σ' H' A' (g.trans a) (st.trans fr s) e nd (Fresh.trans st fr f)
  | bk e => exact fun σ' H' A' a s e nd f => c σ' H' A' (g.trans a) (st.trans fr s) e nd (Fresh.trans st fr f)
  | ct e => exact fun σ' H' A' a s e nd f => c σ' H' A' (g.trans a) (st.trans fr s) e nd (Fresh.trans st fr f)
  | rt o e => exact fun v σ' H' A' B a s e r nd f => c v σ' H' A' B (g.trans a) (st.trans fr s) e r nd (Fresh.trans st fr f)
  | exc x e => exact fun H' s => c H' (st.trans fr s)
  | stuck => exact c
theorem ContS.back {f : DEnv → SR} {env : DEnv} {D : L2.Ends} (es : ES fa K H env σ A) (nd : A.Nodup) (tb : LamX.Tabs TB H) (c : ContS fa K TB W n σ A H (f env) D) : rdS fa K TB W n f D σ H := ⟨env, A, es, nd, tb, c⟩
theorem ContS.nx {env : DEnv} {D : L2.Ends} (es : ES fa K H env σ A) (nd : A.Nodup) (c : ContS fa K TB W n σ A H (.nx env) D) : D.nx σ H := c σ H A AgreeS.refl (Step.refl _ _) es nd (Fresh.self _ _)
/-- g runs while temporaries stand at Bt, then a statement's rest -/
theorem seqM {g : M α} {k : α → DEnv → SR} {env : DEnv} {D : L2.Ends} {Q2 : β → Hp → Prop} (es : ES fa K H env σ A) (nd : (A ++ Bt).Nodup) (tb : LamX.Tabs TB H) (lt : ∀ x ∈ Bt, ∃ xs, H x = some (.lst xs))
    (c : ContS fa K TB W n σ (A ++ Bt) H (runM g k env) D)
    (fin : ∀ a b H' env' A' B', Step TB A H H' → ES fa K H' env' σ A' → rep σ H' a b B' → (A' ++ (Bt ++ B')).Nodup → (∀ x ∈ Bt, ∀ xs, H x = some (.lst xs) → H' x = some (.lst xs)) → LamX.Tabs TB H' →
      ContS fa K TB W n σ (A' ++ (Bt ++ B')) H' (k a env') D → Q2 b H') : rdg fa K TB W rep g σ H Q2 := by
  refine ⟨env, A, es, (List.nodup_append.mp nd).1, tb, ?_⟩
  unfold runM at c
  cases hg : g env with
  | stuck => rw [hg] at c; exact c
  | exc x env' =>
    rw [hg] at c
    exact fun H' A' s e n f => c H' (s.wide fun a ha => List.mem_append_left _ ha)
  | ok a env' =>
    rw [hg] at c
    intro b H' A' B s e r n f
    have lk := lsts_keep s lt nd
    have nd' : (A' ++ (Bt ++ B)).Nodup := by
      have d : ∀ x ∈ Bt, x ∉ A' ++ B := fun x hx z => by
        obtain ⟨xs, q⟩ := lt x hx
        exact f.not q (fun z => (List.nodup_append.mp nd).2.2 x z x hx rfl) z
      rw [List.nodup_append] at n ⊢
      refine ⟨n.1, List.nodup_append.mpr ⟨(List.nodup_append.mp nd).2.1, n.2.1, fun x hx y hy q => d x hx (q ▸ List.mem_append_right _ hy)⟩, fun x hx y hy q => ?_⟩
      rcases List.mem_append.mp hy with hy | hy
      · exact d y hy (q ▸ List.mem_append_left _ hx)
      · exact n.2.2 x hx y hy q
    have s' : Step TB (A ++ Bt) H H' := s.wide fun a ha => List.mem_append_left _ ha
    have f' : Fresh (A ++ Bt) H (A' ++ (Bt ++ B)) := fun x hx => by
      rcases List.mem_append.mp hx with hx | hx
      · exact (f x (List.mem_append_left _ hx)).imp (fun z => List.mem_append_left _ z) id
      · rcases List.mem_append.mp hx with hx | hx
        · exact .inl (List.mem_append_right _ hx)
        · exact (f x (List.mem_append_right _ hx)).imp (fun z => List.mem_append_left _ z) id
    exact fin a b H' env' A' B s e r nd' lk (s.tabs tb) (ContS.move c AgreeS.refl s' f')
theorem seqM0 {g : M α} {k : α → DEnv → SR} {D : L2.Ends} {Q2 : β → Hp → Prop} (h : rdS fa K TB W n (runM g k) D σ H)
    (fin : ∀ a b H' env' A' B', ES fa K H' env' σ A' → rep σ H' a b B' → (A' ++ B').Nodup → LamX.Tabs TB H' → ContS fa K TB W n σ (A' ++ B') H' (k a env') D → Q2 b H') : rdg fa K TB W rep g σ H Q2 := by
  obtain ⟨env, A, es, nd, tb, c⟩ := h
  refine seqM (Bt := []) es (by simpa using nd) tb (fun x hx => absurd hx (by simp)) (by simpa using c) fun a b H' env' A' B' s e r n _ tb' c' => ?_
  exact fin a b H' env' A' B' e r (by simpa using n) tb' (by simpa using c')
theorem ContS.drop {r : SR} {D : L2.Ends} (c : ContS fa K TB W n σ (A ++ L) H r D) : ContS fa K TB W n σ A H r D := by
  cases r with
  | nx e => exact fun σ' H' A' a s e nd f => c σ' H' A' a (s.wide fun a ha => List.mem_append_left _ ha) e nd fun a ha => (f a ha).imp (fun z => List.mem_append_left _ z) id
  | bk e => exact fun σ' H' A' a s e nd f => c σ' H' A' a (s.wide fun a ha => List.mem_append_left _ ha) e nd fun a ha => (f a ha).imp (fun z => List.mem_append_left _ z) id
  | ct e => exact fun σ' H' A' a s e nd f => c σ' H' A' a (s.wide fun a ha => List.mem_append_left _ ha) e nd fun a ha => (f a ha).imp (fun z => List.mem_append_left _ z) id
  | rt o e => exact fun v σ' H' A' B a s e r nd f => c v σ' H' A' B a (s.wide fun a ha => List.mem_append_left _ ha) e r nd fun a ha => (f a ha).imp (fun z => List.mem_append_left _ z) id
  | exc x e => exact fun H' s => c H' (s.wide fun a ha => List.mem_append_left _ ha)
  | stuck => exact c
end
section
variable {fa : List Addr} {TB : List (Addr × Str)} {W : Exc → Hp → Prop} {X : Cx} {n : Nat} {e a b : Expr} {ns es : List Expr} {pos p p2 : Pos} {stm : Stmt} {rest body : List Stmt}
theorem _root_.L2.PS.imp {X : Cx} {e : Stmt} {t t' : TS} (h : PS X e t) (i : ∀ D σ H, t' D σ H → t D σ H) : PS X e t' := ⟨fun pins s σ H D I q => h.run pins s σ H D I (i D σ H q)⟩
theorem _root_.L2.PSs.imp {X : Cx} {e : List Stmt} {t t' : TS} (h : PSs X e t) (i : ∀ D σ H, t' D σ H → t D σ H) : PSs X e t' := ⟨fun pins s σ H D I q => h.run pins s σ H D I (i D σ H q)⟩
abbrev DS (fa : List Addr) (TB : List (Addr × Str)) (W : Exc → Hp → Prop) (n : Nat) (X : Cx) (e : Stmt) (f : DEnv → SR) : Prop := PS X e (rdS fa X.K TB W n f)
abbrev DSs (fa : List Addr) (TB : List (Addr × Str)) (W : Exc → Hp → Prop) (n : Nat) (X : Cx) (e : List Stmt) (f : DEnv → SR) : Prop := PSs X e (rdS fa X.K TB W n f)
theorem dss_nil : DSs fa TB W n X [] SR.nx := pss_nil.imp fun D σ H ⟨env, A, es, nd, tb, c⟩ => ContS.nx es nd c
theorem dss_cons {f g : DEnv → SR} (h1 : DS fa TB W n X stm f) (h2 : DSs fa TB W n X rest g) : DSs fa TB W n X (stm :: rest) (fun env => seqS (f env) g) :=
  (pss_cons h1 h2).imp fun D σ H ⟨env, A, es, nd, tb, c⟩ => by
    refine ⟨env, A, es, nd, tb, ?_⟩
    have c : ContS fa X.K TB W n σ A H (match f env with | .nx e => g e | r => r) D := c
    cases hf : f env with
    | nx e =>
      rw [hf] at c
      exact fun σ' H' A' a s e' nd' f' => ⟨e, A', e', nd', s.tabs tb, ContS.move c a s f'⟩
    | bk e => rw [hf] at c; exact c
    | ct e => rw [hf] at c; exact c
    | rt o e => rw [hf] at c; exact c
    | exc x e => rw [hf] at c; exact c
    | stuck => rw [hf] at c; exact c
theorem ds_expr {f : M O} (he : DE fa TB W X e f) (hs : swapsWith e none pos.line X.env = pure false) : DS fa TB W n X (.Expr e pos) (runM f fun _ e1 => .nx e1) :=
  (ps_expr he hs).imp fun D σ H hh => seqM0 hh fun o v H1 env1 A1 B1 es1 r1 nd1 tb1 c1 => ContS.nx es1 (List.nodup_append.mp nd1).1 c1.drop
theorem ds_pass : DS fa TB W n X (.Pass pos) SR.nx := ps_pass.imp fun D σ H ⟨env, A, es, nd, tb, c⟩ => ContS.nx es nd c
theorem ds_brk : DS fa TB W n X (.Break pos) SR.bk := ps_break.imp fun D σ H ⟨env, A, es, nd, tb, c⟩ => c σ H A AgreeS.refl (Step.refl _ _) es nd (Fresh.self _ _)
theorem ds_ct : DS fa TB W n X (.Continue pos) SR.ct := ps_continue.imp fun D σ H ⟨env, A, es, nd, tb, c⟩ => c σ H A AgreeS.refl (Step.refl _ _) es nd (Fresh.self _ _)
theorem ds_ret {f : M O} (he : DE fa TB W X e f) : DS fa TB W n X (.Return (some e) pos) (runM f fun o e1 => .rt o e1) :=
  (ps_ret he).imp fun D σ H hh => seqM0 hh fun o v H1 env1 A1 B1 es1 r1 nd1 tb1 c1 => c1 v σ H1 A1 B1 AgreeS.refl (Step.refl _ _) es1 r1 nd1 (Fresh.self _ _)
theorem ds_retN : DS fa TB W n X (.Return none pos) (fun env => .rt (.val .none) env) := ps_retN.imp fun D σ H ⟨env, A, es, nd, tb, c⟩ =>
  c .non σ H A [] AgreeS.refl (Step.refl _ _) es (show ORep fa X.K H (.val .none) .non [] from ⟨rfl, rfl⟩) (by simpa using nd) (by simpa using Fresh.self _ _)
theorem ds_if {c : Expr} {a b : List Stmt} {fc : M Bool} {f g : DEnv → SR} (hc : DT fa TB W X c fc) (ha : DSs fa TB W n X a f) (hb : DSs fa TB W n X b g) : DS fa TB W n X (.If c a b pos) (runM fc fun t e1 => if t then f e1 else g e1) :=
  (ps_if hc ha hb).imp fun D σ H hh => seqM0 hh fun t t' H1 env1 A1 B1 es1 r1 nd1 tb1 c1 => by
    obtain ⟨rfl, rfl⟩ := rB_eq r1
    rw [List.append_nil] at nd1 c1
    cases t with
    | true => exact ContS.back es1 nd1 tb1 c1
    | false => exact ContS.back es1 nd1 tb1 c1
/-- a slot is set -/
theorem set_slot {K : PySem.W.Frag} {H : Hp} {σ : L2.St} {env : DEnv} {A B : List Addr} {i : Nat} {o : O} {v : V} (es : ES fa K H env σ A) (hl : i < env.length) (r : ORep fa K H o v B) (nd : (A ++ B).Nodup) :
    ∃ A', ES fa K H (env.set i (some o)) (σ.set i (some v)) A' ∧ A'.Nodup ∧ ∀ a ∈ A', a ∈ A ++ B := by
  obtain ⟨A1, B0, A2, y, hA, _, _, _, hset⟩ := es.slot (List.getElem?_eq_getElem hl)
  subst hA
  obtain ⟨n1, n2, n3⟩ := List.nodup_append.mp nd
  obtain ⟨m1, _, _⟩ := nodup_mid n1
  refine ⟨A1 ++ (B ++ A2), hset H (some o) (some v) B (Le.refl H) (fun a ha xs e => e) (fun o' z => by cases z; exact ⟨v, rfl, r⟩) (by simp), mid_nodup m1 n2 fun x hx z => ?_, fun a ha => ?_⟩
  · refine n3 x ?_ x hx rfl
    rcases List.mem_append.mp z with z | z <;> simp [z]
  · simp only [List.mem_append] at ha ⊢
    rcases ha with ha | ha | ha <;> simp [ha]
/-- name = value: the reading alone -/
theorem asgN_read {f : M O} {i : Nat} (hn : n ≤ i) {D : L2.Ends} {σ : L2.St} {H : Hp} (hh : rdS fa X.K TB W n (runM f fun o e1 => if i < e1.length then .nx (e1.set i (some o)) else .stuck) D σ H) :
    rdg fa X.K TB W (rO fa X.K) f σ H (fun v H1 => D.nx (σ.set i (some v)) H1) := seqM0 hh fun o v H1 env1 A1 B1 es1 r1 nd1 tb1 c1 => by
  split at c1
  · rename_i hl
    obtain ⟨A', e', n', m'⟩ := set_slot es1 hl r1 nd1
    exact c1 _ H1 A' (AgreeS.set hn) (Step.refl _ _) e' n' fun a ha => .inl (m' a ha)
  · exact c1.elim
theorem ds_asgN {f : M O} {i : Nat} {x : Str} (hN : X.N.Nodup) (hi : X.N[i]? = some x) (hx : Loc X.env.scope x) (hf : X.fn x = true ∨ X.env.scope.names.lookup x = some .local) (hn : n ≤ i) (he : DE fa TB W X e f) (hs : swapsWith e (some (.Name x p)) pos.line X.env = pure false) :
    DS fa TB W n X (.Assign [.Name x p] e pos) (runM f fun o e1 => if i < e1.length then .nx (e1.set i (some o)) else .stuck) :=
  (ps_set hN hi hx he hs hf).imp fun D σ H hh => asgN_read hn hh
theorem ds_asgC {i : Nat} {x : Str} {elt tg iter : Expr} {ifs : List Expr} {scope : Scope} {own' : List (Str × Nat)} {t : Tg} {fI : M (List PyData)} {fT : M Bool} {fE : M O} (hc : X.calm = true) (hN : X.N.Nodup) (hi0 : X.N[i]? = some x) (hyl : X.env.scope.names.lookup x = some .local) (hn : n ≤ i)
    (hsw : swapsWith (.ListComp elt [⟨tg, iter, ifs, 0⟩] scope p2) (some (.Name x p)) pos.line X.env = pure true) (hi : DI fa TB W X tg iter fI) (ok : BlkOk X.N X.env.scope scope own')
    (hg : ∀ (s : Shared) (H : Hp) (C : Addr) (cl : List (Str × Addr)) (fp : List Addr), PG (X.blk s H scope (compEnvC scope cl C X.env) fp) tg (gDr fa X.K TB t))
    (ht : ∀ (s : Shared) (H : Hp) (C : Addr) (cl : List (Str × Addr)) (fp : List Addr), PTs (X.blk s H scope (compEnvC scope cl C X.env) fp) ifs (rdg fa X.K TB (fun _ _ => False) rB fT))
    (he : ∀ (s : Shared) (H : Hp) (C : Addr) (cl : List (Str × Addr)) (fp : List Addr), DE fa TB (fun _ _ => False) (X.blk s H scope (compEnvC scope cl C X.env) fp) elt fE)
    (hs : ∀ x, foldedSetIterable iter X.env x = pure x) (hsub : ∀ i ∈ tgSlots t, i ∈ own'.map (·.2)) (hnd : (own'.map (·.2)).Nodup) :
    DS fa TB W n X (.Assign [.Name x p] (.ListComp elt [⟨tg, iter, ifs, 0⟩] scope p2) pos) (runM (fI >>= fun ds => blockM (own'.map (·.2)) (compD (asgD t) fT fE (own'.map (·.2)) ds) >>= fun os => M.of (if os.length ≤ sizeLine then some (.lst os) else none))
      fun o e1 => if i < e1.length then .nx (e1.set i (some o)) else .stuck) :=
  (ps_setLc (te := rdg fa X.K TB (fun _ _ => False) (rO fa X.K) fE) hc hN hi0 hyl hsw hi ok hg ht he hs).imp fun D σ H hh => comp_read hsub hnd (asgN_read hn hh)
mutual
theorem asgD_noexc : ∀ (t : Tg) (d : PyData) (e : DEnv) (x : Exc) (e2 : DEnv), asgD t d e ≠ .exc x e2
  | .name i, d, e, x, e2 => fun h => by
    simp only [asgD] at h
    split at h <;> cases h
  | .tup ts, d, e, x, e2 => fun h => by
    cases d with
    | tuple ds => simp only [asgD] at h; exact asgAll_noexc ts ds e x e2 h
    | _ => simp [asgD] at h
theorem asgAll_noexc : ∀ (ts : List Tg) (ds : List PyData) (e : DEnv) (x : Exc) (e2 : DEnv), asgAll ts ds e ≠ .exc x e2
  | [], ds, e, x, e2 => fun h => by
    cases ds with
    | nil =>
      have h : (R.ok () e : R Unit) = .exc x e2 := h
      cases h
    | cons d ds => simp [asgAll] at h
  | t :: ts, ds, e, x, e2 => fun h => by
    cases ds with
    | nil => simp [asgAll] at h
    | cons d ds =>
      simp only [asgAll, M.bind_def] at h
      cases h4 : asgD t d e with
      | stuck => rw [h4] at h; cases h
      | exc y e3 => exact asgD_noexc t d e y e3 h4
      | ok u e3 => rw [h4] at h; exact asgAll_noexc ts ds e3 x e2 h
end
/-- a target takes the value apart -/
theorem ds_asg {f : M O} {tg : Expr} {t : Tg} (he : DE fa TB W X e f) (hg : PG X tg (gDr fa X.K TB t)) (hn : ∀ i ∈ tgSlots t, n ≤ i) (hs : swapsWithSole [tg] e pos.line X.env = pure false) (hw : swappedStores [tg] e X.env = pure none) (h1 : (assignEach [tg] X.env).map (·.2) = [assign tg X.env]) :
    DS fa TB W n X (.Assign [tg] e pos) (runM f fun o => runM (toD o) fun d => runM (asgD t d) fun _ e2 => .nx e2) :=
  (ps_asg (post he) hg hs hw h1).imp fun D σ H hh => seqM0 hh fun o v H1 env1 A1 B1 es1 r1 nd1 tb1 c1 => by
    unfold runM at c1
    cases h2 : toD o env1 with
    | stuck => rw [h2] at c1; exact c1.elim
    | exc x e' => unfold toD at h2; cases hz : o.fz <;> rw [hz] at h2 <;> cases h2
    | ok d e' =>
      rw [h2] at c1
      have hd : o.fz = some d ∧ e' = env1 := by
        unfold toD at h2
        cases hz : o.fz with
        | none => rw [hz] at h2; cases h2
        | some d' => rw [hz] at h2; cases h2; exact ⟨rfl, rfl⟩
      obtain ⟨hd, rfl⟩ := hd
      obtain ⟨n1, n2, n3⟩ := List.nodup_append.mp nd1
      refine fz_lk (TB := TB) o r1 hd n2 fun H2 s k2 r2 => ?_
      have es2 : ES fa X.K H2 e' σ A1 := es1.mono s.le fun a ha xs q => by rw [k2 a fun z => n3 a ha a z rfl]; exact q
      simp only at c1
      cases h3 : asgD t d e' with
      | stuck => rw [h3] at c1; exact c1.elim
      | exc x e2 =>
        exfalso
        exact asgD_noexc t d e' x e2 h3
      | ok u e2 =>
        rw [h3] at c1
        refine ⟨d, e', A1, r2, es2, n1, s.tabs tb1, e2, h3, fun σ' A' l f es' n' m' => ?_⟩
        refine c1 σ' H2 A' ⟨l, fun i hi => f i fun z => ?_⟩ (s.wide fun a ha => List.mem_append_right _ ha) es' n' fun a ha => .inl (List.mem_append_left _ (m' a ha))
        have := hn i z
        omega
end
end DL
namespace DL
open PySem PySem.Spec PyProof.Rows L2
section
variable {fa : List Addr} {TB : List (Addr × Str)} {W : Exc → Hp → Prop} {X : Cx} {n : Nat} {e a b c : Expr} {ns es : List Expr} {pos p p2 p3 : Pos} {stm : Stmt} {rest body : List Stmt} {K : PySem.W.Frag}
/-! ### several names at once -/
def setV (σ : L2.St) : List Nat → List V → L2.St
  | i :: is, v :: vs => setV (σ.set i (some v)) is vs
  | _, _ => σ
theorem set_slots {H : Hp} : ∀ {is : List Nat} {os : List O} {vs : List V} {σ : L2.St} {env : DEnv} {A B : List Addr}, ES fa K H env σ A → (∀ i ∈ is, i < env.length) → os.length = is.length → ORepAll fa K H os vs B → (A ++ B).Nodup →
    ∃ A', ES fa K H (setAll env is (os.map some)) (setV σ is vs) A' ∧ A'.Nodup ∧ ∀ a ∈ A', a ∈ A ++ B
  | [], [], vs, σ, env, A, B, es, _, _, r, nd => by
    simp only [ORepAll] at r
    obtain ⟨rfl, rfl⟩ := r
    exact ⟨A, es, (List.nodup_append.mp nd).1, fun a h => by simp [h]⟩
  | i :: is, o :: os, vs, σ, env, A, B, es, hl, hs, r, nd => by
    simp only [ORepAll] at r
    obtain ⟨v, q, B1, B2, rfl, rfl, r1, r2⟩ := r
    have nd1 : (A ++ B1).Nodup := (List.nodup_append.mp (by rw [← List.append_assoc] at nd; exact nd)).1
    obtain ⟨A', e', n', m'⟩ := set_slot es (hl i (by simp)) r1 nd1
    have nd2 : (A' ++ B2).Nodup := by
      rw [← List.append_assoc] at nd
      obtain ⟨q1, q2, q3⟩ := List.nodup_append.mp nd
      exact List.nodup_append.mpr ⟨n', q2, fun x hx y hy => q3 x (m' x hx) y hy⟩
    obtain ⟨A2, e2, n2, m2⟩ := set_slots (is := is) (os := os) e' (fun j hj => by rw [List.length_set]; exact hl j (by simp [hj])) (by simpa using hs) r2 nd2
    refine ⟨A2, e2, n2, fun a ha => ?_⟩
    rcases List.mem_append.mp (m2 a ha) with z | z
    · rcases List.mem_append.mp (m' a z) with z | z <;> simp [z]
    · simp [z]
  | [], o :: os, vs, σ, env, A, B, es, _, hs, r, nd => by simp at hs
  | i :: is, [], vs, σ, env, A, B, es, _, hs, r, nd => by simp at hs
theorem agree_setV : ∀ {is : List Nat} {vs : List V} {σ : L2.St}, (∀ i ∈ is, n ≤ i) → AgreeS n σ (setV σ is vs)
  | [], vs, σ, _ => by cases vs <;> exact AgreeS.refl
  | i :: is, [], σ, _ => AgreeS.refl
  | i :: is, v :: vs, σ, h => (AgreeS.set (h i (by simp))).trans (agree_setV fun j hj => h j (by simp [hj]))
theorem par_read {f : M (List O)} {is : List Nat} (hn : ∀ i ∈ is, n ≤ i) {D : L2.Ends} {σ : L2.St} {H : Hp}
    (hh : rdS fa X.K TB W n (runM f fun os e1 => if os.length = is.length ∧ is.all (fun i => decide (i < e1.length)) = true then .nx (setAll e1 is (os.map some)) else .stuck) D σ H) :
    rdg fa X.K TB W (rL fa X.K) f σ H (fun vs H1 => vs.length = is.length ∧ D.nx (setV σ is vs) H1) := seqM0 hh fun os vs H1 env1 A1 B1 es1 r1 nd1 tb1 c1 => by
  split at c1
  · rename_i h
    obtain ⟨h1, h2⟩ := h
    obtain ⟨A', e', n', m'⟩ := set_slots es1 (fun i hi => of_decide_eq_true (List.all_eq_true.mp h2 i hi)) h1 r1 nd1
    exact ⟨by rw [orepall_len r1, h1], c1 _ H1 A' (agree_setV hn) (Step.refl _ _) e' n' fun a ha => .inl (m' a ha)⟩
  · exact c1.elim
theorem ds_par2 {f : M (List O)} {i j : Nat} {x y : Str} {px py pt : Pos} {kt k2 : Nat} {pt2 : Pos} (hc : X.calm = true) (hN : X.N.Nodup) (hi : X.N[i]? = some x) (hj : X.N[j]? = some y) (hij : i ≠ j) (hx : X.env.scope.names.lookup x = some .local) (hy : X.env.scope.names.lookup y = some .local)
    (hn : ∀ k ∈ [i, j], n ≤ k) (ha : DA fa TB W X [a, b] f) (hw : swappedStores [.Tuple [.Name x px, .Name y py] kt pt] (.Tuple [a, b] k2 pt2) X.env = pure (some [x, y])) :
    DS fa TB W n X (.Assign [.Tuple [.Name x px, .Name y py] kt pt] (.Tuple [a, b] k2 pt2) pos) (runM f fun os e1 => if os.length = [i, j].length ∧ [i, j].all (fun i => decide (i < e1.length)) = true then .nx (setAll e1 [i, j] (os.map some)) else .stuck) :=
  (ps_par hc hN hi hj hij hx hy ha hw rfl).imp fun D σ H hh => by
    obtain ⟨env, A, es, nd, tb, c⟩ := par_read hn hh
    refine ⟨env, A, es, nd, tb, ?_⟩
    revert c
    cases f env with
    | stuck => exact id
    | exc x e' => exact id
    | ok os e' =>
      exact fun c vs H' A' B s e r nd f => by
        obtain ⟨hl, q⟩ := c vs H' A' B s e r nd f
        match vs, hl with
        | [v, w], _ => exact ⟨v, w, rfl, q⟩
theorem ds_par3 {f : M (List O)} {i j l : Nat} {x y z : Str} {px py pz pt : Pos} {kt k2 : Nat} {pt2 : Pos} (hc : X.calm = true) (hN : X.N.Nodup) (hi : X.N[i]? = some x) (hj : X.N[j]? = some y) (hl : X.N[l]? = some z) (hij : i ≠ j) (hil : i ≠ l) (hjl : j ≠ l)
    (hx : X.env.scope.names.lookup x = some .local) (hy : X.env.scope.names.lookup y = some .local) (hz : X.env.scope.names.lookup z = some .local) (hn : ∀ k ∈ [i, j, l], n ≤ k) (ha : DA fa TB W X [a, b, c] f)
    (hw : swappedStores [.Tuple [.Name x px, .Name y py, .Name z pz] kt pt] (.Tuple [a, b, c] k2 pt2) X.env = pure (some [x, y, z])) :
    DS fa TB W n X (.Assign [.Tuple [.Name x px, .Name y py, .Name z pz] kt pt] (.Tuple [a, b, c] k2 pt2) pos) (runM f fun os e1 => if os.length = [i, j, l].length ∧ [i, j, l].all (fun i => decide (i < e1.length)) = true then .nx (setAll e1 [i, j, l] (os.map some)) else .stuck) :=
  (L2.ps_par3 hc hN hi hj hl hij hil hjl hx hy hz ha hw rfl).imp fun D σ H hh => by
    obtain ⟨env, A, es, nd, tb, c⟩ := par_read hn hh
    refine ⟨env, A, es, nd, tb, ?_⟩
    revert c
    cases f env with
    | stuck => exact id
    | exc x e' => exact id
    | ok os e' =>
      exact fun c vs H' A' B s e r nd f => by
        obtain ⟨hl, q⟩ := c vs H' A' B s e r nd f
        match vs, hl with
        | [v, w, u], _ => exact ⟨v, w, u, rfl, q⟩
/-- by the tuple itself -/
def gN : List Nat → TGs
  | [] => gNil
  | i :: is => gCons (gName i) (gN is)
theorem gN_of : ∀ {is : List Nat} {vs : List V} {σ : L2.St} {H : Hp} {Q : L2.St → Hp → Prop}, vs.length = is.length → Q (setV σ is vs) H → gN is vs σ H Q
  | [], [], _, _, _, _, q => ⟨rfl, q⟩
  | i :: is, v :: vs, _, _, _, h, q => ⟨v, vs, rfl, gN_of (by simpa using h) q⟩
  | [], v :: vs, _, _, _, h, _ => by simp at h
  | i :: is, [], _, _, _, h, _ => by simp at h
theorem ds_parT {f : M (List O)} {is : List Nat} {kt k2 : Nat} {pt pt2 : Pos} (hc : X.calm = true) (hg : PGs X ns (gN is)) (hp : tgPlain ns = true) (hl : is.length = ns.length) (hn : ∀ k ∈ is, n ≤ k) (ha : DA fa TB W X es f)
    (hz : is.length ≤ sizeLine) (hw : swappedStores [.Tuple ns kt pt] (.Tuple es k2 pt2) X.env = pure none) :
    DS fa TB W n X (.Assign [.Tuple ns kt pt] (.Tuple es k2 pt2) pos) (runM f fun os e1 => if os.length = is.length ∧ is.all (fun i => decide (i < e1.length)) = true then .nx (setAll e1 is (os.map some)) else .stuck) :=
  (ps_asg (pe_tup ha) (pg_tup (n := ns.length) hc hg asg_len (asg_nostar hp)) rfl hw rfl).imp fun D σ H hh => by
    refine seqM0 (Q2 := fun vs H1 => vs.length ≤ sizeLine ∧ ∀ p, H1 p = none → gTup X.K ns.length (gN is) (.ref p) σ (upd H1 p (.tup vs)) D.nx) hh fun os vs H1 env1 A1 B1 es1 r1 nd1 tb1 c1 => ?_
    split at c1
    · rename_i h
      obtain ⟨h1, h2⟩ := h
      have e0 : vs.length = is.length := by rw [orepall_len r1, h1]
      refine ⟨by rw [e0]; exact hz, fun pp hp => ⟨pp, vs, rfl, SqT.of upd_same, by rw [e0, hl], gN_of e0 ?_⟩⟩
      have s1 : Step TB (A1 ++ B1) H1 (upd H1 pp (.tup vs)) := Step.new hp
      have kk : ∀ a ∈ A1 ++ B1, ∀ xs, H1 a = some (.lst xs) → upd H1 pp (.tup vs) a = some (.lst xs) := fun a ha xs q => by rw [upd_ne (ne_of_none q hp)]; exact q
      obtain ⟨A', e', n', m'⟩ := set_slots (es1.mono s1.le fun a ha => kk a (List.mem_append_left _ ha)) (fun i hi => of_decide_eq_true (List.all_eq_true.mp h2 i hi)) h1 (ORepAll.mono s1.le os r1 fun a ha => kk a (List.mem_append_right _ ha)) nd1
      exact c1 _ _ A' (agree_setV hn) s1 e' n' fun a ha => .inl (m' a ha)
    · exact c1.elim
/-! ### loops -/
theorem ds_loop {tg iter : Expr} {t : Tg} {f : M (List PyData)} {g : DEnv → SR} (hp : PassesOwn (model X.prog X.w) X.A X.env X.xe) (hc : X.calm = true) (hi : DI fa TB W X tg iter f) (hg : PG X tg (gDr fa X.K TB t)) (hn : ∀ i ∈ tgSlots t, n ≤ i) (hb : DSs fa TB W n X body g)
    (hs : ∀ x, foldedSetIterable iter X.env x = pure x) : DS fa TB W n X (.For tg iter body [] pos) (runM f fun ds e1 => forD (asgD t) g ds e1) :=
  (ps_for hp hc hi hg hb hs).imp fun D σ H hh => seqM0 hh fun ds J H1 env1 A1 B1 es1 r1 nd1 tb1 c1 => by
    obtain ⟨rfl, wk⟩ := r1
    rw [List.append_nil] at nd1 c1
    refine ⟨fun i m σ H => m = ds.length - i ∧ i ≤ ds.length ∧ Le H1 H ∧ ∃ env A, ES fa X.K H env σ A ∧ A.Nodup ∧ LamX.Tabs TB H ∧ ContS fa X.K TB W n σ A H (forD (asgD t) g (ds.drop i) env) D,
      ⟨ds.length, by simp, Nat.zero_le _, Le.refl _, env1, A1, es1, nd1, tb1, by simpa using c1⟩, ?_⟩
    rintro i m σ2 H2 ⟨rfl, hi', l2, env, A, es, nd, tb, c⟩
    by_cases hlt : i < ds.length
    · refine .inr ⟨wk.go i H2 hlt l2, fun σ' H' => Le H1 H' ∧ ∃ env A, ES fa X.K H' env σ' A ∧ A.Nodup ∧ LamX.Tabs TB H' ∧ ContS fa X.K TB W n σ' A H' (forD (asgD t) g (ds.drop (i + 1)) env) D, ?_, ?_⟩
      · rintro σ' H' ⟨l', q⟩
        exact ⟨ds.length - (i + 1), by omega, rfl, hlt, l', q⟩
      · intro x H' hy
        obtain ⟨sy, d, hd, rd⟩ := wk.yld i H2 x H' l2 hlt hy
        have hdrop : ds.drop i = d :: ds.drop (i + 1) := by
          rw [List.drop_eq_getElem_cons hlt]
          rw [List.getElem?_eq_getElem hlt] at hd
          cases hd; rfl
        rw [hdrop] at c
        simp only [forD, runM] at c
        have es' : ES fa X.K H' env σ2 A := es.mono sy.le fun a ha xs q => sy.keep a _ q (by simp) fun ps z => by cases z
        have c' := ContS.move c (AgreeS.refl (n := n)) (sy.wide (L := A) (by simp)) (Fresh.self A H2)
        cases h1 : asgD t d env with
        | stuck => rw [h1] at c'; exact c'.elim
        | exc x e => exact (asgD_noexc t d env x e h1).elim
        | ok u env2 =>
          rw [h1] at c'
          simp only at c'
          refine ⟨d, env, A, rd, es', nd, sy.tabs tb, env2, h1, fun σ3 A3 l3 f3 es3 n3 m3 => ?_⟩
          have ag : AgreeS n σ2 σ3 := ⟨l3, fun j hj => f3 j fun z => by have := hn j z; omega⟩
          have c3 := ContS.move c' ag (Step.refl A H') (L := A3) fun a ha => .inl (m3 a ha)
          refine ⟨env2, A3, es3, n3, sy.tabs tb, ?_⟩
          revert c3
          cases g env2 with
          | nx e => exact fun c3 σ' H4 A' a s e' nd' f' => ⟨(l2.trans sy.le).trans s.le, e, A', e', nd', s.tabs (sy.tabs tb), ContS.move c3 a s f'⟩
          | ct e => exact fun c3 σ' H4 A' a s e' nd' f' => ⟨(l2.trans sy.le).trans s.le, e, A', e', nd', s.tabs (sy.tabs tb), ContS.move c3 a s f'⟩
          | bk e => exact id
          | rt o e => exact id
          | exc x e => exact id
          | stuck => exact id
    · have e : i = ds.length := by omega
      subst e
      rw [List.drop_length] at c
      exact .inl ⟨wk.stop _ H2 (Nat.le_refl _) l2, ContS.nx es nd c⟩
theorem ds_whil {cc : Expr} {f : M Bool} {g : DEnv → SR} {fuel : DEnv → Nat} (hp : PassesOwn (model X.prog X.w) X.A X.env X.xe) (hc : DT fa TB W X cc f) (hb : DSs fa TB W n X body g) : DS fa TB W n X (.While cc body [] pos) (fun env => whileD f g (fuel env) env) :=
  (ps_while hp hc hb).imp fun D σ H ⟨env, A, es, nd, tb, c⟩ => by
    refine ⟨fun m σ H => ∃ env A, ES fa X.K H env σ A ∧ A.Nodup ∧ LamX.Tabs TB H ∧ ContS fa X.K TB W n σ A H (whileD f g m env) D, ⟨fuel env, env, A, es, nd, tb, c⟩, ?_⟩
    rintro m σ1 H1 ⟨env1, A1, es1, nd1, tb1, c1⟩
    cases m with
    | zero => exact c1.elim
    | succ m =>
      unfold whileD at c1
      refine seqM (Bt := []) es1 (by simpa using nd1) tb1 (fun x hx => absurd hx (by simp)) (by simpa using c1) fun b b' H2 env2 A2 B2 s2 es2 r2 nd2 _ tb2 c2 => ?_
      obtain ⟨rfl, rfl⟩ := rB_eq r2
      simp only [List.append_nil] at nd2 c2
      cases b with
      | false => exact ContS.nx es2 nd2 c2
      | true =>
        rw [if_pos rfl] at c2 ⊢
        refine ⟨fun σ' H' => ∃ env A, ES fa X.K H' env σ' A ∧ A.Nodup ∧ LamX.Tabs TB H' ∧ ContS fa X.K TB W n σ' A H' (whileD f g m env) D, fun σ' H' q => ⟨m, Nat.lt_succ_self _, q⟩, env2, A2, es2, nd2, tb2, ?_⟩
        revert c2
        cases g env2 with
        | nx e => exact fun c3 σ' H4 A' a s e' nd' f' => ⟨e, A', e', nd', s.tabs tb2, ContS.move c3 a s f'⟩
        | ct e => exact fun c3 σ' H4 A' a s e' nd' f' => ⟨e, A', e', nd', s.tabs tb2, ContS.move c3 a s f'⟩
        | bk e => exact id
        | rt o e => exact id
        | exc x e => exact id
        | stuck => exact id
/-! ### raise -/
theorem ds_rais {Wx : WX} {x : Nat} {xa : List Addr} {C : Addr} (hc : X.calm = true) (tk : Takes X Wx) (hW : ∀ y H', W y H' → ∀ σ, Wx (.ref (xa.getD y.cls 0)) none σ H') (hx : xa.getD x 0 = C) (he : PMk X e (fun _ H Q => Q (.ref C) none H)) : DS fa TB W n X (.Raise (some e) none pos) (fun env => .exc ⟨x⟩ env) :=
  (ps_raise hc tk he).imp fun D σ H ⟨env, A, es, nd, tb, c⟩ => by
    have := hW ⟨x⟩ H (c H (Step.refl _ _)) σ
    rw [hx] at this
    exact this
end
end DL
namespace DL
open PySem PySem.Spec PyProof.Rows L2
section
variable {fa : List Addr} {TB : List (Addr × Str)} {W : Exc → Hp → Prop} {X : Cx} {n : Nat} {e a b c : Expr} {ns es : List Expr} {pos p p2 p3 apos cpos : Pos} {K : PySem.W.Frag}
/-- an item of a list that may change -/
theorem orepall_item {H : Hp} : ∀ {xs : List O} {vs : List V} {As : List Addr} {k : Nat} {o : O}, ORepAll fa K H xs vs As → xs[k]? = some o →
    ∃ v B C1 C2, vs[k]? = some v ∧ ORep fa K H o v B ∧ As = C1 ++ (B ++ C2) ∧ ORepAll fa K H (xs.eraseIdx k) (vs.eraseIdx k) (C1 ++ C2) ∧ ∀ o' v' B', ORep fa K H o' v' B' → ORepAll fa K H (xs.set k o') (vs.set k v') (C1 ++ (B' ++ C2))
  | [], _, _, _, _, _, h => by simp at h
  | x :: xs, vs, As, 0, o, r, h => by
    simp only [ORepAll] at r
    obtain ⟨v, q, A1, A2, rfl, rfl, r1, r2⟩ := r
    simp at h; subst h
    refine ⟨v, A1, [], A2, rfl, r1, rfl, r2, fun o' v' B' r' => ?_⟩
    simp only [List.set_cons_zero, ORepAll]
    exact ⟨v', q, B', A2, rfl, rfl, r', r2⟩
  | x :: xs, vs, As, k + 1, o, r, h => by
    simp only [ORepAll] at r
    obtain ⟨v, q, A1, A2, rfl, rfl, r1, r2⟩ := r
    obtain ⟨v0, B, C1, C2, h1, h2, rfl, h4, h5⟩ := orepall_item (k := k) r2 (by simpa using h)
    refine ⟨v0, B, A1 ++ C1, C2, by simpa using h1, h2, by simp, ?_, fun o' v' B' r' => ?_⟩
    · simp only [List.eraseIdx_cons_succ, ORepAll]
      exact ⟨v, _, A1, C1 ++ C2, rfl, by simp, r1, h4⟩
    · simp only [List.set_cons_succ, ORepAll]
      exact ⟨v, _, A1, C1 ++ (B' ++ C2), rfl, by simp, r1, h5 o' v' B' r'⟩
/-- the list in a slot is changed -/
theorem lst_slot {H : Hp} {σ : L2.St} {env : DEnv} {A : List Addr} {i : Nat} {xs : List O} (es : ES fa K H env σ A) (nd : A.Nodup) (h : env[i]? = some (some (.lst xs))) :
    ∃ A1 a vs As A2, A = A1 ++ ((a :: As) ++ A2) ∧ σ[i]? = some (some (.ref a)) ∧ H a = some (.lst vs) ∧ ORepAll fa K H xs vs As ∧ a ∉ As ∧
      ∀ ys us B, ORepAll fa K H ys us B → B.Nodup → a ∉ B → (∀ x ∈ B, x ∉ A1 ++ A2) →
        ES fa K (upd H a (.lst us)) (env.set i (some (.lst ys))) σ (A1 ++ ((a :: B) ++ A2)) ∧ (A1 ++ ((a :: B) ++ A2)).Nodup ∧ Step TB [a] H (upd H a (.lst us)) := by
  obtain ⟨A1, B0, A2, y, hA, hs, hv, _, hset⟩ := es.slot h
  obtain ⟨v, rfl, r⟩ := hv _ rfl
  simp only [ORep] at r
  obtain ⟨a, vs, As, rfl, rfl, e3, r1⟩ := r
  subst hA
  obtain ⟨n1, n2, n3⟩ := nodup_mid nd
  refine ⟨A1, a, vs, As, A2, rfl, hs, e3, r1, (List.nodup_cons.mp n2).1, fun ys us B rB nB naB dB => ?_⟩
  have s : Step TB [a] H (upd H a (.lst us)) := Step.lsts (fun b hb => by simp at hb; subst hb; exact ⟨_, e3⟩) fun b hb => upd_ne (by simpa using hb)
  have ka : a ∉ A1 ++ A2 := n3 a (by simp)
  refine ⟨?_, mid_nodup n1 (List.nodup_cons.mpr ⟨naB, nB⟩) fun x hx => ?_, s⟩
  · have := hset (upd H a (.lst us)) (some (.lst ys)) (some (.ref a)) (a :: B) s.le (fun b hb xs' q => by rw [upd_ne fun z => ka (by rw [← z]; exact hb)]; exact q)
      (fun o z => by
        cases z
        exact ⟨_, rfl, (show ORep fa K (upd H a (.lst us)) (.lst ys) (.ref a) (a :: B) from ⟨a, us, B, rfl, rfl, upd_same, ORepAll.mono s.le ys rB fun b hb xs' q => by rw [upd_ne fun z => naB (by rw [← z]; exact hb)]; exact q⟩)⟩) (by simp)
    rwa [set_same hs] at this
  · rcases List.mem_cons.mp hx with rfl | hx
    · exact ka
    · exact dB x hx
theorem chkLst_ok {α β : Type} {rep : RepT α β} {σ : L2.St} {H : Hp} {A : List Addr} {env : DEnv} {i : Nat} {k : Unit → M α} {Q : β → Hp → Prop} (c : Cont fa K TB W rep σ A H ((chkLst i >>= k) env) Q) : ∃ xs, env[i]? = some (some (.lst xs)) ∧ Cont fa K TB W rep σ A H (k () env) Q := by
  rw [M.bind_def] at c
  unfold chkLst at c
  split at c
  · rename_i e' h
    split at h
    · rename_i xs hx
      cases h
      exact ⟨xs, hx, c⟩
    · cases h
  · rename_i x e' h
    split at h <;> cases h
  · exact c.elim
theorem chkLst_okS {σ : L2.St} {H : Hp} {A : List Addr} {env : DEnv} {i : Nat} {k : Unit → DEnv → SR} {D : L2.Ends} (c : ContS fa K TB W n σ A H (runM (chkLst i) k env) D) : ∃ xs, env[i]? = some (some (.lst xs)) ∧ ContS fa K TB W n σ A H (k () env) D := by
  unfold runM chkLst at c
  split at c
  · rename_i e' h
    split at h
    · rename_i xs hx
      cases h
      exact ⟨xs, hx, c⟩
    · cases h
  · rename_i x e' h
    split at h <;> cases h
  · exact c.elim
theorem ds_app {f : M O} {i : Nat} {x : Str} (hv : PE X (.Name x p) (tVar i)) (he : DE fa TB W X e f) (hns : noStar [e] = true) (hline : (apos.endLine == cpos.line) = true) :
    DS fa TB W n X (.Expr (.Call (.Attribute (.Name x p) "append" apos) [e] [] cpos) pos) (runM (chkLst i) fun _ => runM f fun o e1 => match e1[i]? with
      | some (some (.lst xs)) => if xs.length < sizeLine then .nx (e1.set i (some (.lst (xs ++ [o])))) else .stuck
      | _ => .stuck) := by
  have hpe := pe_bm PySem.F.plainAttrs_list PySem.F.slot_list_append PySem.F.type_list_append mt_append hv (pa_cons he pa_nil (star_cons hns)) (apos := apos) (cpos := cpos) rfl (by rw [star_cons hns]; rfl) hline (star_cons hns) rfl
  refine (ps_expr hpe rfl).imp fun D σ H hh => ?_
  obtain ⟨env, A, es0, nd0, tb0, c0⟩ := hh
  obtain ⟨xs0, hx0, c1⟩ := chkLst_okS c0
  obtain ⟨_, a0, vs0, _, _, _, hs0, hH0, _⟩ := lst_slot (TB := TB) es0 nd0 hx0
  refine ⟨.ref a0, hs0, .inl ⟨rfl, vs0, SqL.of hH0⟩, ?_⟩
  refine seqM (Bt := []) es0 (by simpa using nd0) tb0 (fun x hx => absurd hx (by simp)) (by simpa using c1) fun o v H1 env1 A1 B1 s1 es1 r1 nd1 _ tb1 c2 => ?_
  simp only [List.nil_append] at nd1 c2
  split at c2
  · rename_i xs hx
    split at c2
    · rename_i hl
      obtain ⟨n1, n2, n3⟩ := List.nodup_append.mp nd1
      obtain ⟨C1, a, vs, As, C2, hA, hs, hH, ri, na, up⟩ := lst_slot (TB := TB) es1 n1 hx
      rw [hs0] at hs
      cases hs
      subst hA
      have hnotB : a0 ∉ B1 := fun z => n3 a0 (by simp) a0 z rfl
      obtain ⟨m1, m2, m3⟩ := nodup_mid n1
      obtain ⟨e', n', s'⟩ := up (xs ++ [o]) (vs ++ [v]) (As ++ B1) (orepall_app ri (by simp only [ORepAll]; exact ⟨v, [], B1, [], rfl, by simp, r1, rfl, rfl⟩)) (List.nodup_append.mpr ⟨(List.nodup_cons.mp m2).2, n2, fun x hx y hy => n3 x (by simp [hx]) y hy⟩)
        (fun z => by rcases List.mem_append.mp z with z | z; exact na z; exact hnotB z) (fun x hx z => by
          rcases List.mem_append.mp hx with hx | hx
          · exact m3 x (by simp [hx]) z
          · exact n3 x (by rcases List.mem_append.mp z with z | z <;> simp [z]) x hx rfl)
      refine ⟨a0, vs, v, rfl, rfl, hH, by rw [orepall_len ri]; exact hl, c2 σ _ _ AgreeS.refl (s'.wide fun a ha => by simp at ha; simp [ha]) e' n' fun x hx => .inl ?_⟩
      simp only [List.mem_append, List.mem_cons] at hx ⊢
      rcases hx with h | (h | h | h) | h <;> simp [h]
    · exact c2.elim
  · exact c2.elim
theorem ds_ext {f : M O} {i : Nat} {x : Str} (hv : PE X (.Name x p) (tVar i)) (he : DE fa TB W X e f) (hns : noStar [e] = true) (hline : (apos.endLine == cpos.line) = true) :
    DS fa TB W n X (.Expr (.Call (.Attribute (.Name x p) "extend" apos) [e] [] cpos) pos) (runM (chkLst i) fun _ => runM f fun o e1 => match e1[i]?, o with
      | some (some (.lst xs)), .lst ys => if xs.length + ys.length ≤ sizeLine then .nx (e1.set i (some (.lst (xs ++ ys)))) else .stuck
      | _, _ => .stuck) := by
  have hpe := pe_bm PySem.F.plainAttrs_list PySem.F.slot_list_extend PySem.F.type_list_extend mt_extend hv (pa_cons he pa_nil (star_cons hns)) (apos := apos) (cpos := cpos) rfl (by rw [star_cons hns]; rfl) hline (star_cons hns) rfl
  refine (ps_expr hpe rfl).imp fun D σ H hh => ?_
  obtain ⟨env, A, es0, nd0, tb0, c0⟩ := hh
  obtain ⟨xs0, hx0, c1⟩ := chkLst_okS c0
  obtain ⟨_, a0, vs0, _, _, _, hs0, hH0, _⟩ := lst_slot (TB := TB) es0 nd0 hx0
  refine ⟨.ref a0, hs0, .inl ⟨rfl, vs0, SqL.of hH0⟩, ?_⟩
  refine seqM (Bt := []) es0 (by simpa using nd0) tb0 (fun x hx => absurd hx (by simp)) (by simpa using c1) fun o v H1 env1 A1 B1 s1 es1 r1 nd1 _ tb1 c2 => ?_
  simp only [List.nil_append] at nd1 c2
  split at c2
  · rename_i xs ys hx
    split at c2
    · rename_i hl
      obtain ⟨n1, n2, n3⟩ := List.nodup_append.mp nd1
      obtain ⟨C1, a, vs, As, C2, hA, hs, hH, ri, na, up⟩ := lst_slot (TB := TB) es1 n1 hx
      rw [hs0] at hs
      cases hs
      subst hA
      have hnotB : a0 ∉ B1 := fun z => n3 a0 (by simp) a0 z rfl
      obtain ⟨m1, m2, m3⟩ := nodup_mid n1
      have r1' : ORep fa X.K H1 (.lst ys) v B1 := r1
      simp only [ORep] at r1'
      obtain ⟨b, us, Bs, hB, rfl, hHb, rj⟩ := r1'
      subst hB
      obtain ⟨e', n', s'⟩ := up (xs ++ ys) (vs ++ us) (As ++ Bs) (orepall_app ri rj) (List.nodup_append.mpr ⟨(List.nodup_cons.mp m2).2, (List.nodup_cons.mp n2).2, fun x hx y hy => n3 x (by simp [hx]) y (by simp [hy])⟩)
        (fun z => by rcases List.mem_append.mp z with z | z; exact na z; exact hnotB (by simp [z])) (fun x hx z => by
          rcases List.mem_append.mp hx with hx | hx
          · exact m3 x (by simp [hx]) z
          · exact n3 x (by rcases List.mem_append.mp z with z | z <;> simp [z]) x (by simp [hx]) rfl)
      refine ⟨a0, b, vs, us, rfl, rfl, hH, hHb, by rw [orepall_len ri, orepall_len rj]; exact hl, c2 σ _ _ AgreeS.refl (s'.wide fun a ha => by simp at ha; simp [ha]) e' n' fun x hx => .inl ?_⟩
      simp only [List.mem_append, List.mem_cons] at hx ⊢
      rcases hx with h | (h | h | h) | h <;> simp [h]
    · exact c2.elim
  · exact c2.elim
theorem erase_last {α : Type} : ∀ (l : List α), l.eraseIdx (l.length - 1) = l.dropLast
  | [] => rfl
  | [x] => rfl
  | x :: y :: l => by
    have := erase_last (y :: l)
    simp only [List.length_cons, Nat.add_sub_cancel] at this ⊢
    rw [List.eraseIdx_cons_succ, List.dropLast_cons_cons, this]
theorem de_pop {i : Nat} {x : Str} (hv : PE X (.Name x p) (tVar i)) (hline : (apos.endLine == cpos.line) = true) :
    DE fa TB W X (.Call (.Attribute (.Name x p) "pop" apos) [] [] cpos) (fun e => match e[i]? with
      | some (some (.lst xs)) => match xs.getLast? with
        | some o => .ok o (e.set i (some (.lst xs.dropLast)))
        | none => .stuck
      | _ => .stuck) := by
  have hpe := pe_bm0 PySem.F.plainAttrs_list PySem.F.slot_list_pop PySem.F.type_list_pop mt_pop hv (apos := apos) (cpos := cpos) rfl hline
  refine hpe.imp fun σ H Q hh => ?_
  obtain ⟨env, A, es0, nd0, tb0, c0⟩ := hh
  simp only at c0
  split at c0
  · rename_i xs hx
    split at c0
    · rename_i o ho
      obtain ⟨C1, a, vs, As, C2, hA, hs, hH, ri, na, up⟩ := lst_slot (TB := TB) es0 nd0 hx
      subst hA
      rw [List.getLast?_eq_getElem?] at ho
      obtain ⟨v, B, E1, E2, h1, h2, rfl, h4, _⟩ := orepall_item ri ho
      obtain ⟨m1, m2, m3⟩ := nodup_mid nd0
      obtain ⟨k1, k2⟩ := List.nodup_cons.mp m2
      obtain ⟨q1, q2, q3⟩ := nodup_mid k2
      have hlen := orepall_len ri
      rw [erase_last, ← hlen, erase_last] at h4
      obtain ⟨e', n', s'⟩ := up _ _ _ h4 q1 (fun z => na (by rcases List.mem_append.mp z with z | z <;> simp [z])) fun x hx => m3 x (by rcases List.mem_append.mp hx with z | z <;> simp [z])
      have nB : ∀ x ∈ B, x ≠ a := fun x hx z => na (by rw [← z]; simp [hx])
      refine ⟨.ref a, hs, .inl ⟨rfl, vs, SqL.of hH⟩, a, vs, v, rfl, rfl, hH, by rw [hlen]; exact h1, ?_⟩
      refine c0 v _ _ B (s'.wide fun x hx => by simp at hx; simp [hx]) e' (ORep.mono s'.le o h2 fun x hx ys q => by rw [upd_ne (nB x hx)]; exact q) (List.nodup_append.mpr ⟨n', q2, fun x hx y hy z => ?_⟩) fun x hx => .inl ?_
      · subst z
        simp only [List.mem_append, List.mem_cons] at hx
        rcases hx with h | (h | h | h) | h
        · exact m3 x (by simp [hy]) (by simp [h])
        · exact nB x hy h
        · exact q3 x hy (by simp [h])
        · exact q3 x hy (by simp [h])
        · exact m3 x (by simp [hy]) (by simp [h])
      · simp only [List.mem_append, List.mem_cons] at hx ⊢
        rcases hx with (h | (h | h | h) | h) | h <;> simp [h]
    · exact c0.elim
  · exact c0.elim
theorem de_popAt {f : M Pn} {i : Nat} {x : Str} (hv : PE X (.Name x p) (tVar i)) (he : DP fa TB W X e f) (hns : noStar [e] = true) (hline : (apos.endLine == cpos.line) = true) :
    DE fa TB W X (.Call (.Attribute (.Name x p) "pop" apos) [e] [] cpos) (chkLst i >>= fun _ => f >>= fun p => rd p >>= fun x => (fun e => match e[i]?, x with
      | some (some (.lst xs)), .int k => if -(2 ^ 63) ≤ k ∧ k < 2 ^ 63 then
          match seqIndex? k xs.length with
          | some j => match xs[j]? with
            | some o => .ok o (e.set i (some (.lst (xs.eraseIdx j))))
            | none => .stuck
          | none => .stuck
        else .stuck
      | _, _ => .stuck : M O)) := by
  have hpe := pe_bm PySem.F.plainAttrs_list PySem.F.slot_list_pop PySem.F.type_list_pop mt_popAt hv (pa_cons he pa_nil (star_cons hns)) (apos := apos) (cpos := cpos) rfl (by rw [star_cons hns]; rfl) hline (star_cons hns) rfl
  refine hpe.imp fun σ H Q hh => ?_
  obtain ⟨env, A, es0, nd0, tb0, c0⟩ := hh
  obtain ⟨xs0, hx0, c1⟩ := chkLst_ok c0
  obtain ⟨_, a0, vs0, _, _, _, hs0, hH0, _⟩ := lst_slot (TB := TB) es0 nd0 hx0
  refine ⟨.ref a0, hs0, .inl ⟨rfl, vs0, SqL.of hH0⟩, ?_⟩
  refine seqT (Bt := []) es0 (by simpa using nd0) tb0 (fun x hx => absurd hx (by simp)) (by simpa using c1) fun q w H1 env1 A1 B1 s1 es1 r1 nd1 _ tb1 c2 => ?_
  simp only [List.nil_append] at nd1 c2
  obtain ⟨d, h1, hrd, c3⟩ := rd_ok es1 r1 c2
  clear hrd
  split at c3
  · rename_i xs k hx
    split at c3
    · rename_i hk
      split at c3
      · rename_i j hj
        split at c3
        · rename_i o ho
          obtain ⟨n1, n2, n3⟩ := List.nodup_append.mp nd1
          obtain ⟨C1, a, vs, As, C2, hA, hs, hH, ri, na, up⟩ := lst_slot (TB := TB) es1 n1 hx
          rw [hs0] at hs
          cases hs
          subst hA
          obtain rfl := h1.int
          obtain ⟨v, B, E1, E2, h1', h2, rfl, h4, _⟩ := orepall_item ri ho
          obtain ⟨m1, m2, m3⟩ := nodup_mid n1
          obtain ⟨k1, k2⟩ := List.nodup_cons.mp m2
          obtain ⟨q1, q2, q3⟩ := nodup_mid k2
          have hlen := orepall_len ri
          obtain ⟨e', n', s'⟩ := up _ _ _ h4 q1 (fun z => na (by rcases List.mem_append.mp z with z | z <;> simp [z])) fun x hx => m3 x (by rcases List.mem_append.mp hx with z | z <;> simp [z])
          have nB : ∀ x ∈ B, x ≠ a0 := fun x hx z => na (by rw [← z]; simp [hx])
          refine ⟨a0, vs, k, j, v, rfl, rfl, hH, hk.1, hk.2, by rw [hlen]; exact hj, h1', ?_⟩
          refine c3 v _ _ B (s'.wide fun x hx => by simp at hx; simp [hx]) e' (ORep.mono s'.le o h2 fun x hx ys q => by rw [upd_ne (nB x hx)]; exact q) (List.nodup_append.mpr ⟨n', q2, fun x hx y hy z => ?_⟩) fun x hx => .inl ?_
          · subst z
            simp only [List.mem_append, List.mem_cons] at hx
            rcases hx with h | (h | h | h) | h
            · exact m3 x (by simp [hy]) (by simp [h])
            · exact nB x hy h
            · exact q3 x hy (by simp [h])
            · exact q3 x hy (by simp [h])
            · exact m3 x (by simp [hy]) (by simp [h])
          · simp only [List.mem_append, List.mem_cons] at hx ⊢
            rcases hx with (h | (h | h | h) | h) | h <;> simp [h]
        · exact c3.elim
      · exact c3.elim
    · exact c3.elim
  · exact c3.elim
end
end DL
namespace DL
open PySem PySem.Spec PyProof.Rows L2
/-! ### the shape of the text, checked -/
mutual
def sameD : PyData → PyData → Bool
  | .none, .none => true
  | .bool a, .bool b => a == b
  | .int a, .int b => a == b
  | .str a, .str b => a == b
  | .list a, .list b => sameL a b
  | .tuple a, .tuple b => sameL a b
  | _, _ => false
def sameL : List PyData → List PyData → Bool
  | [], [] => true
  | a :: as, b :: bs => sameD a b && sameL as bs
  | _, _ => false
end
mutual
theorem sameD_eq : ∀ (a b : PyData), sameD a b = true → a = b
  | .none, b, h => by cases b <;> simp_all [sameD]
  | .bool a, b, h => by cases b <;> simp_all [sameD]
  | .int a, b, h => by cases b <;> simp_all [sameD]
  | .str a, b, h => by cases b <;> simp_all [sameD]
  | .list a, b, h => by
    cases b with
    | list b => simp only [sameD] at h; rw [sameL_eq a b h]
    | _ => simp [sameD] at h
  | .tuple a, b, h => by
    cases b with
    | tuple b => simp only [sameD] at h; rw [sameL_eq a b h]
    | _ => simp [sameD] at h
  | .dict a, b, h => by cases b <;> simp [sameD] at h
theorem sameL_eq : ∀ (a b : List PyData), sameL a b = true → a = b
  | [], b, h => by cases b <;> simp_all [sameL]
  | a :: as, b, h => by
    cases b with
    | nil => simp [sameL] at h
    | cons b bs =>
      simp only [sameL, Bool.and_eq_true] at h
      rw [sameD_eq a b h.1, sameL_eq as bs h.2]
end
structure Cs where
  N : List Str
  n : Nat
  fns : List (Str × Nat)
  exs : List Str
  blts : List Str
  gls : List (Str × PyData)
def visB (sc : Scope) (x : Str) : Bool := match sc.names.lookup x with
  | some .local => true
  | some .cell => true
  | some .free => true
  | _ => false
def locB (sc : Scope) (x : Str) : Bool := match sc.names.lookup x with
  | some .local => true
  | some .cell => true
  | _ => false
def glB (sc : Scope) (x : Str) : Bool := decide (sc.names.lookup x = some .globalImplicit)
def okNm (x : Str) : Bool := !(x == ("__debug__" : Str)) && !(x == ("__classdict__" : Str)) && decide (x ≠ ("__name__" : Str))
def notSet : Expr → Bool
  | .Set .. => false
  | _ => true
def notComp : Expr → Bool
  | .ListComp .. => false
  | .SetComp .. => false
  | .DictComp .. => false
  | _ => true
def plainT : Expr → Bool
  | .UnaryOp .Not _ _ => false
  | .BoolOp .. => false
  | .IfExp .. => false
  | .Compare .. => false
  | _ => true
theorem visB_ok {sc : Scope} {x : Str} (h : visB sc x = true) : Vis sc x := by
  unfold visB at h
  split at h
  · exact .inl (by assumption)
  · exact .inr (.inl (by assumption))
  · exact .inr (.inr (by assumption))
  · cases h
theorem locB_ok {sc : Scope} {x : Str} (h : locB sc x = true) : Loc sc x := by
  unfold locB at h
  split at h
  · exact .inl (by assumption)
  · exact .inr (by assumption)
  · cases h
theorem plainT_ok {e : Expr} {env : Env} (h : plainT e = true) : ∀ whole, isTrue e env whole = (do let v ← whole; standAt e.pos; holding [v] (truthy v)) := by
  intro whole
  cases e with
  | UnaryOp op a p => cases op <;> first | (simp [plainT] at h; done) | rfl
  | BoolOp => simp [plainT] at h
  | IfExp => simp [plainT] at h
  | Compare => simp [plainT] at h
  | _ => rfl
theorem notSet_ok {e : Expr} {env : Env} (h : notSet e = true) : ∀ x, foldedSetIterable e env x = pure x := by
  intro x
  cases e <;> first | rfl | simp [notSet] at h
theorem notComp_ok {e : Expr} {t : Option Expr} {l : Nat} {env : Env} (h : notComp e = true) : swapsWith e t l env = pure false := by
  cases e <;> first | rfl | simp [notComp] at h
variable (C : Cs)
def chkVar (sc : Scope) (i : Nat) : Expr → Bool
  | .Name x _ => decide (C.N[i]? = some x) && visB sc x && okNm x
  | _ => false
def chkIns (sc : Scope) : List Nat → List Expr → Bool
  | [], [] => true
  | i :: is, e :: es => chkVar C sc i e && chkIns sc is es
  | _, _ => false
mutual
def chkTg (sc : Scope) (fb : Str → Bool) : Tg → Expr → Bool
  | .name i => fun e => match e with
    | .Name x _ => decide (C.N[i]? = some x) && locB sc x && (fb x || decide (sc.names.lookup x = some .local))
    | _ => false
  | .tup ts => fun e => match e with
    | .Tuple es _ _ => tgPlain es && decide (ts.length = es.length) && chkTgs sc fb ts es
    | _ => false
def chkTgs (sc : Scope) (fb : Str → Bool) : List Tg → List Expr → Bool
  | [] => fun es => match es with
    | [] => true
    | _ => false
  | t :: ts => fun es => match es with
    | e :: es => chkTg sc fb t e && tgPlain (e :: es) && chkTgs sc fb ts es
    | _ => false
end
def glob1 (sc : Scope) (x y : Str) : Bool := x == y && glB sc x && okNm x && C.blts.contains x
def ownOf (own : List Nat) : List (Str × Nat) := own.map fun i => ((C.N[i]?).getD Str.empty, i)
def nodupB (l : List Nat) : Bool := decide l.Nodup
mutual
def chkE (sc : Scope) : E → Expr → Bool
  | .int i => fun e => match e with
    | .Constant (.int j) _ _ => decide (i = j)
    | _ => false
  | .str x => fun e => match e with
    | .Constant (.str y) _ _ => decide (x = y)
    | _ => false
  | .bl b => fun e => match e with
    | .Constant (.bool c) _ _ => decide (b = c)
    | _ => false
  | .non => fun e => match e with
    | .Constant .none _ _ => true
    | _ => false
  | .var i => fun e => chkVar C sc i e
  | .mv i => fun e => chkVar C sc i e
  | .glob x d => fun e => match e with
    | .Name y _ => decide (x = y) && glB sc y && okNm y && C.gls.any fun p => decide (p.1 = x) && sameD p.2 d
    | _ => false
  | .tup es => fun e => match e with
    | .Tuple xs _ _ => noStar xs && chkL sc es xs
    | _ => false
  | .lst es => fun e => match e with
    | .List xs _ => noStar xs && chkL sc es xs
    | _ => false
  | .op o a b => fun e => match e with
    | .BinOp x o' y _ => decide (o = o') && chkE sc a x && chkE sc b y
    | _ => false
  | .neg a => fun e => match e with
    | .UnaryOp .USub x _ => chkE sc a x
    | _ => false
  | .no a => fun e => match e with
    | .UnaryOp .Not x _ => chkE sc a x
    | _ => false
  | .and a b => fun e => match e with
    | .BoolOp .And [x, y] _ => chkE sc a x && chkE sc b y
    | .BoolOp .And (x :: y :: z :: r) pos => chkE sc a x && chkE sc b (.BoolOp .And (y :: z :: r) pos)
    | _ => false
  | .or a b => fun e => match e with
    | .BoolOp .Or [x, y] _ => chkE sc a x && chkE sc b y
    | .BoolOp .Or (x :: y :: z :: r) pos => chkE sc a x && chkE sc b (.BoolOp .Or (y :: z :: r) pos)
    | _ => false
  | .ite c a b => fun e => match e with
    | .IfExp t x y _ => chkT sc c t && chkE sc a x && chkE sc b y
    | _ => false
  | .cmp c a b => fun e => match e with
    | .Compare x [c'] [y] _ => decide (c = c') && chkE sc a x && chkE sc b y && !behindInMarks c y
    | _ => false
  | .cmp2 c d a b u => fun e => match e with
    | .Compare x [c', d'] [y, z] _ => decide (c = c') && decide (d = d') && chkE sc a x && chkE sc b y && chkE sc u z && !lastMarks [c, d] [y, z]
    | _ => false
  | .idx a i => fun e => match e with
    | .Subscript x y _ => chkE sc a x && chkE sc i y && notSlice y
    | _ => false
  | .cut a lo hi => fun e => match e with
    | .Subscript x (.Slice l h none _) _ => chkE sc a x && chkO sc lo l && chkO sc hi h
    | _ => false
  | .call j ins es => fun e => match e with
    | .Call (.Name x _) as [] _ => (match C.fns[j]? with
      | some (nm, ni) => decide (nm = x) && decide (ins.length = ni)
      | none => false) && glB sc x && okNm x && nodupB ins && noStar as && chkIns C sc ins (as.take ins.length) && chkL sc es (as.drop ins.length)
    | _ => false
  | .blt f es => fun e => match e with
    | .Call (.Name x _) (a :: as) [] _ => glob1 C sc x f.name && noStar (a :: as) && chkL sc es (a :: as)
    | _ => false
  | .pop i => fun e => match e with
    | .Call (.Attribute x m apos) [] [] cpos => decide (m = ("pop" : Str)) && chkVar C sc i x && (apos.endLine == cpos.line)
    | _ => false
  | .popAt i a => fun e => match e with
    | .Call (.Attribute x m apos) [y] [] cpos => decide (m = ("pop" : Str)) && chkVar C sc i x && (apos.endLine == cpos.line) && noStar [y] && chkE sc a y
    | _ => false
  | .comp elt own t it ifs => fun e => match e with
    | .ListComp x [⟨tg, iter, cs, k⟩] scope _ => decide (k = 0) && blkC C.N sc scope (ownOf C own) && nodupB own && (tgSlots t).all (fun i => own.contains i) && notSet iter && chkI sc it tg iter && chkTg C (relS scope sc) (fun x => scope.names.lookup x == some .cell) t tg && chkTs (relS scope sc) ifs cs && chkE (relS scope sc) elt x
    | _ => false
  | .fst ps => fun e => match e with
    | .JoinedStr (v1 :: v2 :: r) _ => chkF sc ps (v1 :: v2 :: r)
    | _ => false
termination_by structural x => x
def chkL (sc : Scope) : List E → List Expr → Bool
  | [] => fun es => match es with
    | [] => true
    | _ => false
  | t :: ts => fun es => match es with
    | e :: es => chkE sc t e && chkL sc ts es
    | _ => false
termination_by structural x => x
def chkO (sc : Scope) : Option E → Option Expr → Bool
  | none => fun e => match e with
    | none => true
    | _ => false
  | some t => fun e => match e with
    | some e => chkE sc t e
    | _ => false
termination_by structural x => x
def chkT (sc : Scope) : T → Expr → Bool
  | .v t => fun e => chkE sc t e && (match t, e with
    | .cmp .., _ => true
    | .cmp2 .., _ => true
    | _, e => plainT e)
  | .no a => fun e => match e with
    | .UnaryOp .Not x _ => chkT sc a x
    | _ => false
  | .and a b => fun e => match e with
    | .BoolOp .And [x, y] _ => chkT sc a x && chkT sc b y
    | .BoolOp .And (x :: y :: z :: r) pos => chkT sc a x && chkT sc b (.BoolOp .And (y :: z :: r) pos)
    | _ => false
  | .or a b => fun e => match e with
    | .BoolOp .Or [x, y] _ => chkT sc a x && chkT sc b y
    | .BoolOp .Or (x :: y :: z :: r) pos => chkT sc a x && chkT sc b (.BoolOp .Or (y :: z :: r) pos)
    | _ => false
termination_by structural x => x
def chkTs (sc : Scope) : Option T → List Expr → Bool
  | none => fun es => match es with
    | [] => true
    | _ => false
  | some t => fun es => match es with
    | [e] => chkT sc t e
    | _ => false
termination_by structural x => x
def chkI (sc : Scope) : It → Expr → Expr → Bool
  | .rng1 a => fun _ e => match e with
    | .Call (.Name x _) [y] [] _ => glob1 C sc x "range" && noStar [y] && chkE sc a y
    | _ => false
  | .rng2 a b => fun _ e => match e with
    | .Call (.Name x _) [y, z] [] _ => glob1 C sc x "range" && noStar [y, z] && chkE sc a y && chkE sc b z
    | _ => false
  | .it t => fun _ e => chkE sc t e
  | .enum _ => fun _ _ => false
  | .zip es => fun tg e => match tg, e with
    | .Tuple .., .Call (.Name x _) [y, z] [] _ => glob1 C sc x "zip" && noStar [y, z] && chkL sc es [y, z]
    | _, _ => false
termination_by structural x => x
def chkF (sc : Scope) : List (Option E × Str) → List Expr → Bool
  | [] => fun es => match es with
    | [] => true
    | _ => false
  | (none, x) :: ps => fun es => match es with
    | .Constant (.str y) _ _ :: es => decide (x = y) && chkF sc ps es
    | _ => false
  | (some t, _) :: ps => fun es => match es with
    | .FormattedValue e k none _ :: es => decide (k = -1) && chkE sc t e && chkF sc ps es
    | _ => false
termination_by structural x => x
end
end DL
namespace DL
open PySem PySem.Spec PyProof.Rows L2
abbrev veB : List Value := [.type "ValueError", .type "Exception", .type "BaseException", .type "object"]
structure Wd (C : Cs) (fa : List Addr) (TB : List (Addr × Str)) (xa : List Addr) (Φ : List FnSem) (L : Nat) (P : Program) (w : World) (K : PySem.W.Frag) (mg : Str → Option Value) (base : Heap) : Prop where
  fn : ∀ (j : Nat) (nm : Str) (ni : Nat), C.fns[j]? = some (nm, ni) → ∃ (f : Addr) (fd : FuncData) (ps : List Str) (φ : FnSem), Φ[j]? = some φ ∧ mg nm = some (.ref f) ∧ PySem.W.keepIn K (.ref f) = true ∧ Binds K fd ps [] ∧ FnG P w K mg base L f fd ps (spD fa TB K xa ni φ)
  blt : ∀ x, C.blts.contains x = true → mg x = none
  gl : ∀ p ∈ C.gls, ∃ (u : Value) (v : V), mg p.1 = some u ∧ RelV v u ∧ ∀ H, Rep K H p.2 v
  ex : ∀ (i : Nat) (nm : Str), C.exs[i]? = some nm → ∃ Ca, xa.getD i 0 = Ca ∧ mg nm = some (.ref Ca) ∧ PySem.W.excIn K Ca veB "ValueError.__new__" = true ∧ PySem.W.keepIn K (.ref Ca) = true ∧ PySem.W.subIn K (.ref Ca) (.type "BaseException") = some true ∧ PySem.W.typeIn K (.ref Ca) = some (.type "type")
structure Gd (C : Cs) (fa : List Addr) (TB : List (Addr × Str)) (xa : List Addr) (Φ : List FnSem) (L : Nat) (X : Cx) (sc : Scope) (fb : Str → Bool) (W : Exc → Hp → Prop) : Prop where
  wd : Wd C fa TB xa Φ L X.prog X.w X.K X.mg X.base
  N : X.N = C.N
  nd : X.N.Nodup
  sc : X.env.scope = sc
  calm : X.calm = true
  room : Room L X.A
  gd : X.A.guards = some []
  fnc : ∀ x, fb x = true → X.fn x = true
  tk : ∃ Wx, Takes X Wx ∧ ∀ y H', W y H' → ∀ σ, Wx (.ref (xa.getD y.cls 0)) none σ H'
section
variable {C : Cs} {fa : List Addr} {TB : List (Addr × Str)} {xa : List Addr} {Φ : List FnSem} {L : Nat} {X : Cx} {sc : Scope} {fb : Str → Bool} {W : Exc → Hp → Prop}
theorem Gd.blk (G : Gd C fa TB xa Φ L X sc fb W) (s : Shared) (H : Hp) (scope : Scope) (Ca : Addr) (cl : List (Str × Addr)) (fp : List Addr) :
    Gd C fa TB xa Φ L (X.blk s H scope (compEnvC scope cl Ca X.env) fp) (relS scope sc) (fun x => scope.names.lookup x == some .cell) (fun _ _ => False) :=
  ⟨G.wd, G.N, G.nd, by show relS scope X.env.scope = _; rw [G.sc], G.calm, G.room, G.gd, fun x h => h, ⟨fun _ _ _ _ => False, LamX.takes0, fun _ _ h => h.elim⟩⟩
theorem Gd.hu (G : Gd C fa TB xa Φ L X sc fb W) : X.A.units + 64 < cLine := G.room.units
theorem okNm1 {x : Str} (h : okNm x = true) : (x == ("__debug__" : Str)) = false := by simp [okNm] at h; simp [h]
theorem okNm2 {x : Str} (h : okNm x = true) : (x == ("__classdict__" : Str)) = false := by simp [okNm] at h; simp [h]
theorem okNm3 {x : Str} (h : okNm x = true) : x ≠ ("__name__" : Str) := by simp [okNm] at h; exact h.2
theorem sVar (G : Gd C fa TB xa Φ L X sc fb W) {i : Nat} {e : Expr} (h : chkVar C sc i e = true) : PE X e (tVar i) := by
  unfold chkVar at h
  split at h
  · simp only [Bool.and_eq_true, decide_eq_true_eq] at h
    obtain ⟨⟨h1, h2⟩, h3⟩ := h
    exact pe_var (by rw [G.N]; exact h1) (by rw [G.sc]; exact visB_ok h2) (okNm1 h3) (okNm2 h3)
  · cases h
theorem varName {i : Nat} {e : Expr} (h : chkVar C sc i e = true) : ∃ x p, e = .Name x p := by
  unfold chkVar at h
  split at h
  · exact ⟨_, _, rfl⟩
  · cases h
theorem sIns (G : Gd C fa TB xa Φ L X sc fb W) : ∀ {ins : List Nat} {ns : List Expr}, chkIns C sc ins ns = true → Paired (fun i e => PE X e (tVar i)) ins ns
  | [], [], _ => .nil
  | [], n :: ns, h => by simp [chkIns] at h
  | i :: ins, [], h => by simp [chkIns] at h
  | i :: ins, n :: ns, h => by
    simp only [chkIns, Bool.and_eq_true] at h
    exact .cons (sVar G h.1) (sIns G h.2)
mutual
theorem sTg (G : Gd C fa TB xa Φ L X sc fb W) : ∀ (t : Tg) {e : Expr}, chkTg C sc fb t e = true → PG X e (gDr fa X.K TB t)
  | .name i, e, h => by
    simp only [chkTg] at h
    split at h
    · rename_i x p
      simp only [Bool.and_eq_true, Bool.or_eq_true, decide_eq_true_eq] at h
      obtain ⟨⟨h1, h2⟩, h3⟩ := h
      exact dg_name G.nd (by rw [G.N]; exact h1) (by rw [G.sc]; exact locB_ok h2) (h3.imp (G.fnc x) (by rw [G.sc]; exact id))
    · cases h
  | .tup ts, e, h => by
    simp only [chkTg] at h
    split at h
    · simp only [Bool.and_eq_true, decide_eq_true_eq] at h
      obtain ⟨⟨h1, h2⟩, h3⟩ := h
      exact dg_tup G.calm (sTgs G ts h3) h1 h2
    · cases h
theorem sTgs (G : Gd C fa TB xa Φ L X sc fb W) : ∀ (ts : List Tg) {es : List Expr}, chkTgs C sc fb ts es = true → PGs X es (gDs fa X.K TB ts)
  | [], es, h => by
    cases es with
    | nil => exact dgs_nil
    | cons e es => simp [chkTgs] at h
  | t :: ts, es, h => by
    cases es with
    | nil => simp [chkTgs] at h
    | cons e es =>
      simp only [chkTgs, Bool.and_eq_true] at h
      exact dgs_cons (sTg G t h.1.1) (sTgs G ts h.2) (asg_cons h.1.2)
end
theorem glob1_ok {x y : Str} (G : Gd C fa TB xa Φ L X sc fb W) (h : glob1 C sc x y = true) : x = y ∧ Gl X x ∧ X.mg x = none ∧ okNm x = true := by
  simp only [glob1, Bool.and_eq_true, beq_iff_eq, glB, decide_eq_true_eq] at h
  obtain ⟨⟨⟨h1, h2⟩, h3⟩, h4⟩ := h
  refine ⟨h1, ?_, G.wd.blt x h4, h3⟩
  show X.env.scope.names.lookup x = _
  rw [G.sc]; exact h2
theorem sP_of (G : Gd C fa TB xa Φ L X sc fb W) {t : E} {e : Expr} (h : chkE C sc t e = true) (d : DE fa TB W X e (ev Φ t)) : DP fa TB W X e (pnOf t (ev Φ t)) := by
  cases t with
  | var i => simp only [chkE] at h; exact dp_var (sVar G h)
  | _ => exact dp_of d
/-! ### soundness -/
mutual
theorem sE : ∀ (t : E) {e : Expr} {X : Cx} {sc : Scope} {fb : Str → Bool} {W : Exc → Hp → Prop}, chkE C sc t e = true → Gd C fa TB xa Φ L X sc fb W → DE fa TB W X e (ev Φ t)
  | .int i, e, X, sc, fb, W, h, G => by
    simp only [chkE] at h
    split at h
    · simp only [decide_eq_true_eq] at h; subst h
      exact de_const pe_int fun H => rfl
    · cases h
  | .str i, e, X, sc, fb, W, h, G => by
    simp only [chkE] at h
    split at h
    · simp only [decide_eq_true_eq] at h; subst h
      exact de_const pe_str fun H => rfl
    · cases h
  | .bl i, e, X, sc, fb, W, h, G => by
    simp only [chkE] at h
    split at h
    · simp only [decide_eq_true_eq] at h; subst h
      exact de_const pe_bl fun H => rfl
    · cases h
  | .non, e, X, sc, fb, W, h, G => by
    simp only [chkE] at h
    split at h
    · exact de_const pe_non fun H => rfl
    · cases h
  | .var i, e, X, sc, fb, W, h, G => by
    simp only [chkE] at h
    exact de_var (sVar G h)
  | .mv i, e, X, sc, fb, W, h, G => by
    simp only [chkE] at h
    exact de_mv (sVar G h)
  | .glob x d, e, X, sc, fb, W, h, G => by
    simp only [chkE] at h
    split at h
    · simp only [Bool.and_eq_true, decide_eq_true_eq, glB, List.any_eq_true] at h
      obtain ⟨⟨⟨h1, h2⟩, h3⟩, p, hp, h4, h5⟩ := h
      subst h1
      have := sameD_eq _ _ h5
      obtain ⟨u, v, g1, g2, g3⟩ := G.wd.gl p hp
      rw [h4] at g1
      rw [this] at g3
      exact de_const (pe_glob (by show X.env.scope.names.lookup x = _; rw [G.sc]; exact h2) g1 g2 (okNm1 h3)) g3
    · cases h
  | .tup es, e, X, sc, fb, W, h, G => by
    simp only [chkE] at h
    split at h
    · simp only [Bool.and_eq_true] at h
      exact de_tup (sL es h.2 h.1 G)
    · cases h
  | .lst es, e, X, sc, fb, W, h, G => by
    simp only [chkE] at h
    split at h
    · simp only [Bool.and_eq_true] at h
      exact de_lst (sL es h.2 h.1 G)
    · cases h
  | .op o a b, e, X, sc, fb, W, h, G => by
    simp only [chkE] at h
    split at h
    · simp only [Bool.and_eq_true, decide_eq_true_eq] at h
      obtain ⟨⟨rfl, h1⟩, h2⟩ := h
      exact de_op (sP_of G h1 (sE a h1 G)) (sP_of G h2 (sE b h2 G))
    · cases h
  | .neg a, e, X, sc, fb, W, h, G => by
    simp only [chkE] at h
    split at h
    · exact de_neg (sP_of G h (sE a h G))
    · cases h
  | .no a, e, X, sc, fb, W, h, G => by
    simp only [chkE] at h
    split at h
    · exact de_not (sP_of G h (sE a h G))
    · cases h
  | .and a b, e, X, sc, fb, W, h, G => by
    simp only [chkE] at h
    split at h
    · simp only [Bool.and_eq_true] at h
      exact de_and (sE a h.1 G) (de_one (sE b h.2 G))
    · simp only [Bool.and_eq_true] at h
      exact de_and (sE a h.1 G) (sE b h.2 G)
    · cases h
  | .or a b, e, X, sc, fb, W, h, G => by
    simp only [chkE] at h
    split at h
    · simp only [Bool.and_eq_true] at h
      exact de_or (sE a h.1 G) (de_one (sE b h.2 G))
    · simp only [Bool.and_eq_true] at h
      exact de_or (sE a h.1 G) (sE b h.2 G)
    · cases h
  | .ite c a b, e, X, sc, fb, W, h, G => by
    simp only [chkE] at h
    split at h
    · simp only [Bool.and_eq_true] at h
      exact de_ite (sT c h.1.1 G).1 (sE a h.1.2 G) (sE b h.2 G)
    · cases h
  | .cmp c a b, e, X, sc, fb, W, h, G => by
    simp only [chkE] at h
    split at h
    · simp only [Bool.and_eq_true, decide_eq_true_eq, Bool.not_eq_true'] at h
      obtain ⟨⟨⟨rfl, h1⟩, h2⟩, h3⟩ := h
      exact de_cmp G.hu (sP_of G h1 (sE a h1 G)) (sP_of G h2 (sE b h2 G)) h3
    · cases h
  | .cmp2 c d a b u, e, X, sc, fb, W, h, G => by
    simp only [chkE] at h
    split at h
    · simp only [Bool.and_eq_true, decide_eq_true_eq, Bool.not_eq_true'] at h
      obtain ⟨⟨⟨⟨⟨rfl, rfl⟩, h1⟩, h2⟩, h3⟩, h4⟩ := h
      exact de_cmp2 G.hu (sP_of G h1 (sE a h1 G)) (sP_of G h2 (sE b h2 G)) (sP_of G h3 (sE u h3 G)) h4
    · cases h
  | .idx a i, e, X, sc, fb, W, h, G => by
    simp only [chkE] at h
    split at h
    · simp only [Bool.and_eq_true] at h
      exact de_idx (sP_of G h.1.1 (sE a h.1.1 G)) (sP_of G h.1.2 (sE i h.1.2 G)) h.2
    · cases h
  | .cut a lo hi, e, X, sc, fb, W, h, G => by
    simp only [chkE] at h
    split at h
    · simp only [Bool.and_eq_true] at h
      exact de_cut (sP_of G h.1.1 (sE a h.1.1 G)) (sO lo h.1.2 G) (sO hi h.2 G)
    · cases h
  | .call j ins es, e, X, sc, fb, W, h, G => by
    simp only [chkE] at h
    split at h
    · rename_i x p as pos
      simp only [Bool.and_eq_true] at h
      obtain ⟨⟨⟨⟨⟨⟨h1, h2⟩, h3⟩, h4⟩, h5⟩, h6⟩, h7⟩ := h
      cases hj : C.fns[j]? with
      | none => rw [hj] at h1; cases h1
      | some q =>
        obtain ⟨nm, ni⟩ := q
        rw [hj] at h1
        simp only [Bool.and_eq_true, decide_eq_true_eq] at h1
        obtain ⟨rfl, rfl⟩ := h1
        obtain ⟨f, fd, ps, φ, g1, g2, g3, g4, g5⟩ := G.wd.fn j _ _ hj
        obtain ⟨Wx, tk, hW⟩ := G.tk
        have hgl : Gl X nm := by
          show X.env.scope.names.lookup nm = _
          rw [G.sc]; exact of_decide_eq_true h2
        have hn : ins.Nodup := of_decide_eq_true h4
        by_cases hne : as = []
        · subst hne
          simp only [List.take_nil, List.drop_nil] at h6 h7
          have hi : ins = [] := by cases ins with
            | nil => rfl
            | cons i is => simp [chkIns] at h6
          subst hi
          have he : es = [] := by cases es with
            | nil => rfl
            | cons e es => simp [chkL] at h7
          subst he
          exact de_call0 g5 g1 G.room G.gd hgl g2 g3 g4 tk hW (okNm1 h3)
        · have e0 : as = as.take ins.length ++ as.drop ins.length := (List.take_append_drop _ _).symm
          have := de_call (p := p) (pos := pos) (ns := as.take ins.length) (es := as.drop ins.length) g5 g1 G.room G.gd hgl g2 g3 g4 tk hW hn (sIns G h6) (by rw [← e0]; exact hne) (by rw [← e0]; exact h5) (sL es h7 (by
            have hd : ∀ (n : Nat) (l : List Expr), noStar l = true → noStar (l.drop n) = true := by
              intro n
              induction n with
              | zero => intro l h; exact h
              | succ n ih => intro l h; cases l with
                | nil => exact h
                | cons a l => exact ih l (noStar_tail h)
            exact hd _ _ h5) G) (okNm1 h3)
          rw [← e0] at this
          exact this
    · cases h
  | .blt f es, e, X, sc, fb, W, h, G => by
    simp only [chkE] at h
    split at h
    · rename_i x p a as pos
      simp only [Bool.and_eq_true] at h
      obtain ⟨⟨h1, h2⟩, h3⟩ := h
      obtain ⟨rfl, g1, g2, g3⟩ := glob1_ok G h1
      exact de_blt G.calm G.gd G.hu g1 g2 (sPL es h3 h2 G) (star_cons h2) (star_plain (noStar_tail h2))
    · cases h
  | .pop i, e, X, sc, fb, W, h, G => by
    simp only [chkE] at h
    split at h
    · simp only [Bool.and_eq_true, decide_eq_true_eq] at h
      obtain ⟨⟨rfl, h1⟩, h2⟩ := h
      obtain ⟨x, p, rfl⟩ := varName h1
      exact de_pop (sVar G h1) h2
    · cases h
  | .popAt i a, e, X, sc, fb, W, h, G => by
    simp only [chkE] at h
    split at h
    · simp only [Bool.and_eq_true, decide_eq_true_eq] at h
      obtain ⟨⟨⟨⟨rfl, h1⟩, h2⟩, h3⟩, h4⟩ := h
      obtain ⟨x, p, rfl⟩ := varName h1
      exact de_popAt (sVar G h1) (sP_of G h4 (sE a h4 G)) h3 h2
    · cases h
  | .comp elt own t it ifs, e, X, sc, fb, W, h, G => by
    simp only [chkE] at h
    split at h
    · simp only [Bool.and_eq_true, decide_eq_true_eq] at h
      obtain ⟨⟨⟨⟨⟨⟨⟨⟨rfl, h1⟩, h2⟩, h3⟩, h4⟩, h5⟩, h6⟩, h7⟩, h8⟩ := h
      have eo : (ownOf C own).map (·.2) = own := by unfold ownOf; rw [List.map_map]; exact List.map_id own
      have := de_comp (pos := ‹Pos›) (fa := fa) (TB := TB) (W := W) (X := X) (own' := ownOf C own) (t := t) (fI := evI Φ it) (fT := evTs Φ ifs) (fE := ev Φ elt) G.calm G.nd (sI it h5 G) (by rw [G.N, G.sc]; exact blkOk_by h1) (fun s H Ca cl fp => sTg (G.blk s H _ Ca cl fp) t h6)
        (fun s H Ca cl fp => sTs ifs h7 (G.blk s H _ Ca cl fp)) (fun s H Ca cl fp => sE elt h8 (G.blk s H _ Ca cl fp)) (notSet_ok h4) (fun i hi => by rw [eo]; simpa using List.all_eq_true.mp h3 i hi) (by rw [eo]; exact of_decide_eq_true h2)
      rw [eo] at this
      exact this
    · cases h
  | .fst ps, e, X, sc, fb, W, h, G => by
    simp only [chkE] at h
    split at h
    · exact de_fst (sF ps h G)
    · cases h
theorem sL : ∀ (ts : List E) {es : List Expr} {X : Cx} {sc : Scope} {fb : Str → Bool} {W : Exc → Hp → Prop}, chkL C sc ts es = true → noStar es = true → Gd C fa TB xa Φ L X sc fb W → DA fa TB W X es (evs Φ ts)
  | [], es, X, sc, fb, W, h, hs, G => by
    cases es with
    | nil => exact da_nil
    | cons e es => simp [chkL] at h
  | t :: ts, es, X, sc, fb, W, h, hs, G => by
    cases es with
    | nil => simp [chkL] at h
    | cons e es =>
      simp only [chkL, Bool.and_eq_true] at h
      exact da_cons (sE t h.1 G) (sL ts h.2 (noStar_tail hs) G) (star_cons hs)
theorem sPL : ∀ (ts : List E) {es : List Expr} {X : Cx} {sc : Scope} {fb : Str → Bool} {W : Exc → Hp → Prop}, chkL C sc ts es = true → noStar es = true → Gd C fa TB xa Φ L X sc fb W → DPA fa TB W X es (evP Φ ts)
  | [], es, X, sc, fb, W, h, hs, G => by
    cases es with
    | nil => exact dpa_nil
    | cons e es => simp [chkL] at h
  | t :: ts, es, X, sc, fb, W, h, hs, G => by
    cases es with
    | nil => simp [chkL] at h
    | cons e es =>
      simp only [chkL, Bool.and_eq_true] at h
      exact dpa_cons (sP_of G h.1 (sE t h.1 G)) (sPL ts h.2 (noStar_tail hs) G) (star_cons hs)
theorem sO : ∀ (t : Option E) {e : Option Expr} {X : Cx} {sc : Scope} {fb : Str → Bool} {W : Exc → Hp → Prop}, chkO C sc t e = true → Gd C fa TB xa Φ L X sc fb W → DO fa TB W X e (evO Φ t)
  | none, e, X, sc, fb, W, h, G => by
    cases e with
    | none => exact do_none
    | some e => simp [chkO] at h
  | some t, e, X, sc, fb, W, h, G => by
    cases e with
    | none => simp [chkO] at h
    | some e => simp only [chkO] at h; exact do_some (sP_of G h (sE t h G))
theorem sT : ∀ (t : T) {e : Expr} {X : Cx} {sc : Scope} {fb : Str → Bool} {W : Exc → Hp → Prop}, chkT C sc t e = true → Gd C fa TB xa Φ L X sc fb W → DT fa TB W X e (evT Φ t) ∧ ((∃ a b, t = .and a b) ∨ (∃ a b, t = .or a b) → DW fa TB W X e (evT Φ t))
  | .v t, e, X, sc, fb, W, h, G => by
    refine ⟨?_, fun z => by rcases z with ⟨a, b, z⟩ | ⟨a, b, z⟩ <;> cases z⟩
    simp only [chkT, Bool.and_eq_true] at h
    obtain ⟨h1, h2⟩ := h
    have hE := sE t h1 G
    cases t with
    | cmp c a b =>
      have h3 := h1
      simp only [chkE] at h3
      split at h3
      · simp only [Bool.and_eq_true, decide_eq_true_eq, Bool.not_eq_true'] at h3
        obtain ⟨⟨⟨rfl, q1⟩, q2⟩, q3⟩ := h3
        have := dt_cmp (pos := ‹Pos›) G.hu (sP_of G q1 (sE a q1 G)) (sP_of G q2 (sE b q2 G)) q3
        have e1 : evT Φ (.v (.cmp c a b)) = (pnOf a (ev Φ a) >>= fun p => pnOf b (ev Φ b) >>= fun q => rd p >>= fun x => rd q >>= fun y => M.of (cmpD c x y)) := by
          simp only [evT, ev, pnOf, bind_assoc]
          congr 1; funext p; congr 1; funext q; congr 1; funext x; congr 1; funext y
          funext env
          cases cmpD c x y <;> rfl
        rw [e1]; exact this
      · cases h3
    | cmp2 c d a b u =>
      have h3 := h1
      simp only [chkE] at h3
      split at h3
      · simp only [Bool.and_eq_true, decide_eq_true_eq, Bool.not_eq_true'] at h3
        obtain ⟨⟨⟨⟨⟨rfl, rfl⟩, q1⟩, q2⟩, q3⟩, q4⟩ := h3
        have := dt_cmp2 (pos := ‹Pos›) G.hu (sP_of G q1 (sE a q1 G)) (sP_of G q2 (sE b q2 G)) (sP_of G q3 (sE u q3 G)) q4
        have e1 : evT Φ (.v (.cmp2 c d a b u)) = (pnOf a (ev Φ a) >>= fun p => pnOf b (ev Φ b) >>= fun q => rd p >>= fun x => rd q >>= fun y => M.of (cmpD c x y) >>= fun r =>
            if r then pnOf u (ev Φ u) >>= fun u => rd q >>= fun y => rd u >>= fun z => M.of (cmpD d y z) else pure false) := by
          simp only [evT, ev, pnOf, bind_assoc]
          congr 1; funext p; congr 1; funext q; congr 1; funext x; congr 1; funext y; congr 1; funext r
          cases r
          · rfl
          · simp only [if_true, bind_assoc]
            congr 1; funext p; congr 1; funext q; congr 1; funext x
            funext env
            cases cmpD d q x <;> rfl
        rw [e1]; exact this
      · cases h3
    | _ => exact dt_val (sP_of G h1 hE) (plainT_ok h2)
  | .no a, e, X, sc, fb, W, h, G => by
    refine ⟨?_, fun z => by rcases z with ⟨a, b, z⟩ | ⟨a, b, z⟩ <;> cases z⟩
    simp only [chkT] at h
    split at h
    · exact dt_not (sT a h G).1
    · cases h
  | .and a b, e, X, sc, fb, W, h, G => by
    have : DW fa TB W X e (evT Φ (.and a b)) := by
      simp only [chkT] at h
      split at h
      · simp only [Bool.and_eq_true] at h
        exact dw_and (sT a h.1 G).1 (dw_and1 (sT b h.2 G).1)
      · simp only [Bool.and_eq_true] at h
        refine dw_and (sT a h.1 G).1 ((sT b h.2 G).2 (.inl ?_))
        have h2 := h.2
        cases b with
        | and x y => exact ⟨x, y, rfl⟩
        | v t => simp only [chkT, Bool.and_eq_true] at h2; cases t <;> simp [chkE, plainT, chkVar] at h2
        | no x => simp [chkT] at h2
        | or x y => simp [chkT] at h2
      · cases h
    exact ⟨this.pt, fun _ => this⟩
  | .or a b, e, X, sc, fb, W, h, G => by
    have : DW fa TB W X e (evT Φ (.or a b)) := by
      simp only [chkT] at h
      split at h
      · simp only [Bool.and_eq_true] at h
        exact dw_or (sT a h.1 G).1 (dw_or1 (sT b h.2 G).1)
      · simp only [Bool.and_eq_true] at h
        refine dw_or (sT a h.1 G).1 ((sT b h.2 G).2 (.inr ?_))
        have h2 := h.2
        cases b with
        | or x y => exact ⟨x, y, rfl⟩
        | v t => simp only [chkT, Bool.and_eq_true] at h2; cases t <;> simp [chkE, plainT, chkVar] at h2
        | no x => simp [chkT] at h2
        | and x y => simp [chkT] at h2
      · cases h
    exact ⟨this.pt, fun _ => this⟩
theorem sTs : ∀ (t : Option T) {es : List Expr} {X : Cx} {sc : Scope} {fb : Str → Bool} {W : Exc → Hp → Prop}, chkTs C sc t es = true → Gd C fa TB xa Φ L X sc fb W → PTs X es (rdg fa X.K TB W rB (evTs Φ t))
  | none, es, X, sc, fb, W, h, G => by
    cases es with
    | nil => exact ⟨fun pins s σ H Q I ⟨env, A, es, nd, tb, c⟩ => pts_nil.run pins s σ H Q I (c true H A [] (Step.refl _ _) es ⟨rfl, rfl⟩ (by simpa using nd) (by simpa using Fresh.self _ _))⟩
    | cons e es => simp [chkTs] at h
  | some t, es, X, sc, fb, W, h, G => by
    simp only [chkTs] at h
    split at h
    · exact pts_one (sT t h G).1
    · cases h
theorem sI : ∀ (t : It) {tg e : Expr} {X : Cx} {sc : Scope} {fb : Str → Bool} {W : Exc → Hp → Prop}, chkI C sc t tg e = true → Gd C fa TB xa Φ L X sc fb W → DI fa TB W X tg e (evI Φ t)
  | .rng1 a, tg, e, X, sc, fb, W, h, G => by
    simp only [chkI] at h
    split at h
    · simp only [Bool.and_eq_true] at h
      obtain ⟨⟨h1, h2⟩, h3⟩ := h
      obtain ⟨rfl, g1, g2, _⟩ := glob1_ok G h1
      exact di_rng1 g1 g2 (sP_of G h3 (sE a h3 G)) h2
    · cases h
  | .rng2 a b, tg, e, X, sc, fb, W, h, G => by
    simp only [chkI] at h
    split at h
    · simp only [Bool.and_eq_true] at h
      obtain ⟨⟨⟨h1, h2⟩, h3⟩, h4⟩ := h
      obtain ⟨rfl, g1, g2, _⟩ := glob1_ok G h1
      exact di_rng2 g1 g2 (sP_of G h3 (sE a h3 G)) (sP_of G h4 (sE b h4 G)) h2
    · cases h
  | .it t, tg, e, X, sc, fb, W, h, G => by
    simp only [chkI] at h
    exact di_it (sE t h G)
  | .enum es, tg, e, X, sc, fb, W, h, G => by
    simp [chkI] at h
  | .zip es, tg, e, X, sc, fb, W, h, G => by
    simp only [chkI] at h
    split at h
    · simp only [Bool.and_eq_true] at h
      obtain ⟨⟨h1, h2⟩, h3⟩ := h
      obtain ⟨rfl, g1, g2, _⟩ := glob1_ok G h1
      exact di_zip g1 g2 (sL es h3 h2 G) h2
    · cases h
theorem sF : ∀ (t : List (Option E × Str)) {es : List Expr} {X : Cx} {sc : Scope} {fb : Str → Bool} {W : Exc → Hp → Prop}, chkF C sc t es = true → Gd C fa TB xa Φ L X sc fb W → DF fa TB W X es (evF Φ t)
  | [], es, X, sc, fb, W, h, G => by
    cases es with
    | nil => exact df_nil
    | cons e es => simp [chkF] at h
  | (none, x) :: ps, es, X, sc, fb, W, h, G => by
    simp only [chkF] at h
    split at h
    · simp only [Bool.and_eq_true, decide_eq_true_eq] at h
      obtain ⟨rfl, h1⟩ := h
      exact df_str (sF ps h1 G)
    · cases h
  | (some t, x) :: ps, es, X, sc, fb, W, h, G => by
    simp only [chkF] at h
    split at h
    · simp only [Bool.and_eq_true, decide_eq_true_eq] at h
      obtain ⟨⟨rfl, h1⟩, h2⟩ := h
      exact df_int (sP_of G h1 (sE t h1 G)) (sF ps h2 G)
    · cases h
end
end
end DL
namespace DL
open PySem PySem.Spec PyProof.Rows L2
section
variable {fa : List Addr} {TB : List (Addr × Str)} {W : Exc → Hp → Prop} {X : Cx} {n : Nat} {e a b c k : Expr} {ns es : List Expr} {pos p p2 p3 apos cpos spos : Pos} {K : PySem.W.Frag}
theorem rd_okS {σ : L2.St} {H : Hp} {A L B : List Addr} {env : DEnv} {q : Pn} {v : V} {k : PyData → DEnv → SR} {D : L2.Ends} (es : ES fa K H env σ A) (r : rP fa K σ H q v B) (c : ContS fa K TB W n σ L H (runM (rd q) k env) D) :
    ∃ d, RdR K H d v ∧ ContS fa K TB W n σ L H (k d env) D := by
  unfold runM at c
  cases h : rd q env with
  | stuck => rw [h] at c; exact c.elim
  | exc x e =>
    exfalso
    cases q with
    | o x => simp only [rd, M.of] at h; split at h <;> cases h
    | s i => simp only [rd, M.of] at h; split at h <;> (first | cases h | (split at h <;> cases h))
  | ok d e' =>
    rw [h] at c
    have c0 : Cont fa K TB W (rB (α := PyData)) σ A H ((rd q >>= fun d => (pure d : M PyData)) env) (fun _ _ => True) := by
      rw [M.bind_def, h]
      exact fun _ _ _ _ _ _ _ _ _ => True.intro
    obtain ⟨d', h1, h2, _⟩ := rd_ok es r c0
    rw [h] at h2
    cases h2
    exact ⟨d, h1, c⟩
theorem ds_setI {f : M O} {g : M Pn} {i : Nat} {x : Str} (hv : PE X (.Name x p) (tVar i)) (he : DE fa TB W X e f) (hk : DP fa TB W X k g) (hs : notComp e = true) (hns : notSlice k = true) :
    DS fa TB W n X (.Assign [.Subscript (.Name x p) k spos] e pos) (runM (chkLst i) fun _ => runM f fun o => runM g fun q => runM (rd q) fun d e1 => match e1[i]?, d with
      | some (some (.lst xs)), .int j => match L2.ixN xs.length j with
        | some n => .nx (e1.set i (some (.lst (xs.set n o))))
        | none => .stuck
      | _, _ => .stuck) := by
  have hg : PG X (.Subscript (.Name x p) k spos) (gSub (tVar i) (rdg fa X.K TB W (rP fa X.K) g) rSetL) := pg_sub hv hk set_list (by intro v; cases k <;> first | rfl | simp [notSlice] at hns)
  refine (ps_asg he hg (notComp_ok (t := some (.Subscript (.Name x p) k spos)) (l := pos.line) (env := X.env) hs) rfl rfl).imp fun D σ H hh => ?_
  obtain ⟨env, A, es0, nd0, tb0, c0⟩ := hh
  obtain ⟨xs0, hx0, c1⟩ := chkLst_okS c0
  obtain ⟨_, a0, vs0, _, _, _, hs0, hH0, _⟩ := lst_slot (TB := TB) es0 nd0 hx0
  refine seqM (Bt := []) es0 (by simpa using nd0) tb0 (fun x hx => absurd hx (by simp)) (by simpa using c1) fun o v H1 env1 A1 B1 s1 es1 r1 nd1 _ tb1 c2 => ?_
  simp only [List.nil_append] at nd1 c2
  refine ⟨.ref a0, hs0, ?_⟩
  refine seqM (Bt := B1) es1 nd1 tb1 (ORep.lsts o r1) c2 fun q w H2 env2 A2 B2 s2 es2 r2 nd2 k2 tb2 c3 => ?_
  obtain ⟨d, hd, c4⟩ := rd_okS es2 r2 c3
  split at c4
  · rename_i xs j hx
    split at c4
    · rename_i m hm
      obtain ⟨n1, n2, n3⟩ := List.nodup_append.mp nd2
      obtain ⟨nB1, nB2, _⟩ := List.nodup_append.mp n2
      obtain ⟨C1, a, vs, As, C2, hA, hs, hH, ri, na, up⟩ := lst_slot (TB := TB) es2 n1 hx
      rw [hs0] at hs
      cases hs
      subst hA
      obtain rfl := hd.int
      have hlt := (ixN_seq hm).2.1
      obtain ⟨v0, B, E1, E2, _, h2, rfl, _, h5⟩ := orepall_item ri (List.getElem?_eq_getElem hlt)
      have r1' : ORep fa X.K H2 o v B1 := ORep.mono s2.le o r1 k2
      obtain ⟨m1, m2, m3⟩ := nodup_mid n1
      obtain ⟨k1, k3⟩ := List.nodup_cons.mp m2
      obtain ⟨q1, q2, q3⟩ := nodup_mid k3
      have dB : ∀ x ∈ B1, ∀ y ∈ C1 ++ ((a0 :: (E1 ++ (B ++ E2))) ++ C2), x ≠ y := fun x hx y hy z => n3 y hy x (List.mem_append_left _ hx) z.symm
      obtain ⟨e', n', s'⟩ := up _ _ _ (h5 o v B1 r1') (mid_nodup q1 nB1 fun x hx z => dB x hx x (by rcases List.mem_append.mp z with z | z <;> simp [z]) rfl)
        (fun z => by
          simp only [List.mem_append] at z
          rcases z with z | z | z
          · exact k1 (by simp [z])
          · exact dB a0 z a0 (by simp) rfl
          · exact k1 (by simp [z]))
        (fun x hx z => by
          simp only [List.mem_append] at hx
          rcases hx with h | h | h
          · exact m3 x (by simp [h]) z
          · exact dB x h x (by rcases List.mem_append.mp z with z | z <;> simp [z]) rfl
          · exact m3 x (by simp [h]) z)
      refine ⟨a0, vs, j, m, rfl, rfl, hH, by rw [orepall_len ri]; exact hm, c4 σ _ _ AgreeS.refl (s'.wide fun a ha => by simp at ha; simp [ha]) e' n' fun x hx => .inl ?_⟩
      simp only [List.mem_append, List.mem_cons] at hx ⊢
      rcases hx with h | (h | h | h | h) | h <;> simp [h]
    · exact c4.elim
  · exact c4.elim
end
/-! ### statements checked -/
def isStar : Expr → Bool
  | .Starred .. => true
  | _ => false
def nm1 (sc : Scope) (line : Nat) : Expr → Option Str
  | .Name id pos => if sc.names.lookup id == some .local && pos.line == line then some id else none
  | _ => none
def swNames (sc : Scope) (ts : List Expr) : List Str := ts.filterMap (nm1 sc ((ts.head?.map (·.pos.line)).getD 0))
def swC (sc : Scope) (ts vs : List Expr) : Option (List Str) :=
  if (!(ts.length == 2 || ts.length == 3) || vs.length != ts.length) = true then none
  else if vs.any isStar = true then none
  else if ((swNames sc ts).length != ts.length || (swNames sc ts).eraseDups.length != (swNames sc ts).length) = true then none
  else if vs.all (foldedForSure 8) = true then none
  else some (swNames sc ts)
def swOk (sc : Scope) (ts vs : List Expr) : Bool := (swC sc ts vs).isNone || !(vs.all (constantsAlone 8))
theorem blockKind_fn {env : Env} (h : env.scope.kind = .function) : env.blockKind = .function := by unfold Env.blockKind; rw [h]; rfl
theorem swap_raw (ts vs : List Expr) (kt k2 : Nat) (pt pt2 : Pos) (env : Env) : swappedStores [.Tuple ts kt pt] (.Tuple vs k2 pt2) env =
    (if (!(ts.length == 2 || ts.length == 3) || vs.length != ts.length || env.blockKind != .function) = true then pure none
     else if vs.any isStar = true then pure none
     else if ((swNames env.scope ts).length != ts.length || (swNames env.scope ts).eraseDups.length != (swNames env.scope ts).length) = true then pure none
     else if vs.all (foldedForSure 8) = true then pure none
     else if vs.all (constantsAlone 8) = true then (unsupported "assign.tuple-of-constant-expressions:order-of-the-stores" >>= fun (_ : PUnit) => pure (some (swNames env.scope ts)))
     else pure (some (swNames env.scope ts))) := rfl
theorem swap_eq {ts vs : List Expr} {kt k2 : Nat} {pt pt2 : Pos} {env : Env} {sc : Scope} (hsc : env.scope = sc) (hk : sc.kind = .function) (ho : swOk sc ts vs = true) : swappedStores [.Tuple ts kt pt] (.Tuple vs k2 pt2) env = pure (swC sc ts vs) := by
  have hb : (env.blockKind != .function) = false := by rw [blockKind_fn (by rw [hsc]; exact hk)]; rfl
  rw [swap_raw, hb, Bool.or_false, hsc]
  unfold swOk at ho
  unfold swC at ho ⊢
  by_cases h1 : (!(ts.length == 2 || ts.length == 3) || vs.length != ts.length) = true
  · rw [if_pos h1, if_pos h1]
  · rw [if_neg h1] at ho
    rw [if_neg h1, if_neg h1]
    by_cases h2 : vs.any isStar = true
    · rw [if_pos h2, if_pos h2]
    · rw [if_neg h2] at ho
      rw [if_neg h2, if_neg h2]
      by_cases h3 : ((swNames sc ts).length != ts.length || (swNames sc ts).eraseDups.length != (swNames sc ts).length) = true
      · rw [if_pos h3, if_pos h3]
      · rw [if_neg h3] at ho
        rw [if_neg h3, if_neg h3]
        by_cases h4 : vs.all (foldedForSure 8) = true
        · rw [if_pos h4, if_pos h4]
        · rw [if_neg h4] at ho
          rw [if_neg h4, if_neg h4]
          simp only [Option.isNone_some, Bool.false_or, Bool.not_eq_true'] at ho
          rw [if_neg (by rw [ho]; exact Bool.false_ne_true)]
end DL
namespace DL
open PySem PySem.Spec PyProof.Rows L2
def notTup : Expr → Bool
  | .Tuple .. => false
  | _ => true
def swB (sc scope : Scope) (x : Str) (p vp : Pos) : Bool := (sc.names.lookup x == some .local) && p.line == vp.line && !(scope.names.any fun nk => nk.1 == x && (nk.2 == .local || nk.2 == .cell))
theorem swl {elt : Expr} {gs : List Comprehension} {sc scope : Scope} {x : Str} {p vp : Pos} {l : Nat} {env : Env} (hsc : env.scope = sc) (hk : sc.kind = .function) : swapsWith (.ListComp elt gs scope vp) (some (.Name x p)) l env = pure (swB sc scope x p vp) := by
  have hb : (env.blockKind == .function) = true := by rw [blockKind_fn (by rw [hsc]; exact hk)]; rfl
  have h0 : swapsWith (.ListComp elt gs scope vp) (some (.Name x p)) l env = pure ((env.blockKind == .function) && (env.scope.names.lookup x == some .local) && p.line == vp.line && !(scope.names.any fun nk => nk.1 == x && (nk.2 == .local || nk.2 == .cell))) := rfl
  rw [h0, hb, hsc, Bool.true_and]
  rfl
def compB (sc : Scope) (x : Str) (p : Pos) : Expr → Bool
  | .ListComp _ _ _ _ => true
  | v => notComp v
def allGe (n : Nat) (is : List Nat) : Bool := is.all fun i => decide (n ≤ i)
variable (C : Cs)
def chkNm (sc : Scope) (fb : Str → Bool) (i : Nat) : Expr → Bool
  | .Name x _ => decide (C.N[i]? = some x) && locB sc x && (fb x || decide (sc.names.lookup x = some .local))
  | _ => false
def chkNms (sc : Scope) (fb : Str → Bool) : List Nat → List Expr → Bool
  | [], [] => true
  | i :: is, e :: es => chkNm C sc fb i e && tgPlain (e :: es) && chkNms sc fb is es
  | _, _ => false
def par23 (sc : Scope) (is : List Nat) (ts vs : List Expr) (ns : List Str) : Bool := match is, ts, vs with
  | [i, j], [.Name x _, .Name y _], [_, _] => decide (i ≠ j) && decide (sc.names.lookup x = some .local) && decide (sc.names.lookup y = some .local) && decide (ns = [x, y])
  | [i, j, l], [.Name x _, .Name y _, .Name z _], [_, _, _] => decide (i ≠ j) && decide (i ≠ l) && decide (j ≠ l) && decide (sc.names.lookup x = some .local) && decide (sc.names.lookup y = some .local) && decide (sc.names.lookup z = some .local) && decide (ns = [x, y, z])
  | _, _, _ => false
mutual
def chkS (sc : Scope) (fb : Str → Bool) : S → Stmt → Bool
  | .asgN i e => fun s => match s with
    | .Assign [.Name x p] v _ => decide (C.N[i]? = some x) && locB sc x && (fb x || decide (sc.names.lookup x = some .local)) && decide (C.n ≤ i) && decide (sc.kind = .function) && chkE C sc e v && compB sc x p v
    | _ => false
  | .asg t e => fun s => match s with
    | .Assign [tg] v _ => chkTg C sc fb t tg && allGe C.n (tgSlots t) && notComp v && notTup v && tgPlain [tg] && chkE C sc e v
    | _ => false
  | .par is es => fun s => match s with
    | .Assign [.Tuple ts _ _] (.Tuple vs _ _) _ => decide (sc.kind = .function) && swOk sc ts vs && noStar vs && chkL C sc es vs && allGe C.n is && tgPlain ts && decide (is.length = ts.length) && decide (is.length ≤ 1000) && chkNms C sc fb is ts &&
      (match swC sc ts vs with
       | none => true
       | some ns => par23 sc is ts vs ns)
    | _ => false
  | .app i e => fun s => match s with
    | .Expr (.Call (.Attribute o m apos) [v] [] cpos) _ => decide (m = ("append" : Str)) && chkVar C sc i o && noStar [v] && (apos.endLine == cpos.line) && chkE C sc e v
    | _ => false
  | .ext i e => fun s => match s with
    | .Expr (.Call (.Attribute o m apos) [v] [] cpos) _ => decide (m = ("extend" : Str)) && chkVar C sc i o && noStar [v] && (apos.endLine == cpos.line) && chkE C sc e v
    | _ => false
  | .setI i k e => fun s => match s with
    | .Assign [.Subscript o kx _] v _ => chkVar C sc i o && notComp v && notSlice kx && chkE C sc k kx && chkE C sc e v
    | _ => false
  | .expr e => fun s => match s with
    | .Expr v _ => notComp v && chkE C sc e v
    | _ => false
  | .cond c a b => fun s => match s with
    | .If t x y _ => chkT C sc c t && chkSs sc fb a x && chkSs sc fb b y
    | _ => false
  | .loop t it body => fun s => match s with
    | .For tg iter b [] _ => chkI C sc it tg iter && chkTg C sc fb t tg && allGe C.n (tgSlots t) && notSet iter && chkSs sc fb body b
    | _ => false
  | .whil _ c body => fun s => match s with
    | .While t b [] _ => chkT C sc c t && chkSs sc fb body b
    | _ => false
  | .ret e => fun s => match s with
    | .Return (some v) _ => chkE C sc e v
    | _ => false
  | .retN => fun s => match s with
    | .Return none _ => true
    | _ => false
  | .rais x => fun s => match s with
    | .Raise (some (.Call (.Name nm _) [.Constant (.str _) _ _] [] _)) none _ => decide (C.exs[x]? = some nm) && glB sc nm && okNm nm
    | _ => false
  | .brk => fun s => match s with
    | .Break _ => true
    | _ => false
  | .cont => fun s => match s with
    | .Continue _ => true
    | _ => false
  | .pass => fun s => match s with
    | .Pass _ => true
    | _ => false
termination_by structural x => x
def chkSs (sc : Scope) (fb : Str → Bool) : List S → List Stmt → Bool
  | [] => fun ss => match ss with
    | [] => true
    | _ => false
  | t :: ts => fun ss => match ss with
    | s :: ss => chkS sc fb t s && chkSs sc fb ts ss
    | _ => false
termination_by structural x => x
end
section
variable {C : Cs} {fa : List Addr} {TB : List (Addr × Str)} {xa : List Addr} {Φ : List FnSem} {L : Nat} {X : Cx} {sc : Scope} {fb : Str → Bool} {W : Exc → Hp → Prop}
theorem allGe_ok {n : Nat} {is : List Nat} (h : allGe n is = true) : ∀ i ∈ is, n ≤ i := fun i hi => of_decide_eq_true (List.all_eq_true.mp h i hi)
theorem sNm (G : Gd C fa TB xa Φ L X sc fb W) {i : Nat} {e : Expr} (h : chkNm C sc fb i e = true) : PG X e (gName i) := by
  unfold chkNm at h
  split at h
  · simp only [Bool.and_eq_true, Bool.or_eq_true, decide_eq_true_eq] at h
    obtain ⟨⟨h1, h2⟩, h3⟩ := h
    exact pg_name G.nd (by rw [G.N]; exact h1) (by rw [G.sc]; exact locB_ok h2) (h3.imp (G.fnc _) (by rw [G.sc]; exact id))
  · cases h
theorem sNms (G : Gd C fa TB xa Φ L X sc fb W) : ∀ {is : List Nat} {es : List Expr}, chkNms C sc fb is es = true → PGs X es (gN is)
  | [], [], _ => pgs_nil
  | [], e :: es, h => by simp [chkNms] at h
  | i :: is, [], h => by simp [chkNms] at h
  | i :: is, e :: es, h => by
    simp only [chkNms, Bool.and_eq_true] at h
    exact pgs_cons (sNm G h.1.1) (sNms G h.2) (asg_cons h.1.2)
theorem notTup_sw {ts : List Expr} {v : Expr} {env : Env} (h : notTup v = true) : swappedStores ts v env = pure none := by
  cases v <;> first
    | (simp [notTup] at h; done)
    | (cases ts with
       | nil => rfl
       | cons t ts => cases ts with
         | nil => cases t <;> rfl
         | cons _ _ => cases t <;> rfl)
mutual
theorem sS : ∀ (t : S) {s : Stmt} {X : Cx}, chkS C sc fb t s = true → Gd C fa TB xa Φ L X sc fb W → PassesOwn (model X.prog X.w) X.A X.env X.xe → DS fa TB W C.n X s (st Φ t)
  | .asgN i e, s, X, h, G, hp => by
    simp only [chkS] at h
    split at h
    · rename_i x p v pos
      simp only [Bool.and_eq_true, Bool.or_eq_true, decide_eq_true_eq] at h
      obtain ⟨⟨⟨⟨⟨⟨h1, h2⟩, h3⟩, h4⟩, h5⟩, h6⟩, h7⟩ := h
      have hN : X.N[i]? = some x := by rw [G.N]; exact h1
      have hx : Loc X.env.scope x := by rw [G.sc]; exact locB_ok h2
      have hf : X.fn x = true ∨ X.env.scope.names.lookup x = some .local := h3.imp (G.fnc _) (by rw [G.sc]; exact id)
      cases v with
      | ListComp elt gs scope vp =>
        have hsw := swl (elt := elt) (gs := gs) (scope := scope) (x := x) (p := p) (vp := vp) (l := pos.line) G.sc h5
        cases hb : swB sc scope x p vp with
        | false =>
          rw [hb] at hsw
          exact ds_asgN G.nd hN hx hf h4 (sE e h6 G) hsw
        | true =>
          rw [hb] at hsw
          have hl : X.env.scope.names.lookup x = some .local := by
            unfold swB at hb
            simp only [Bool.and_eq_true, beq_iff_eq] at hb
            rw [G.sc]; exact hb.1.1
          have h8 := h6
          cases e with
          | comp el own t it ifs =>
            simp only [chkE] at h8
            split at h8
            · rename_i x' tg iter cs k scope' pos' heq
              cases heq
              simp only [Bool.and_eq_true, decide_eq_true_eq] at h8
              obtain ⟨⟨⟨⟨⟨⟨⟨⟨rfl, q1⟩, q2⟩, q3⟩, q4⟩, q5⟩, q6⟩, q7⟩, q8⟩ := h8
              have eo : (ownOf C own).map (·.2) = own := by unfold ownOf; rw [List.map_map]; exact List.map_id own
              have := ds_asgC (n := C.n) (p := p) (p2 := vp) (pos := pos) (fa := fa) (TB := TB) (W := W) (X := X) (own' := ownOf C own) (t := t) (fI := evI Φ it) (fT := evTs Φ ifs) (fE := ev Φ el) G.calm G.nd hN hl h4 hsw (sI it q5 G) (by rw [G.N, G.sc]; exact blkOk_by q1) (fun s H Ca cl fp => sTg (G.blk s H _ Ca cl fp) t q6)
                (fun s H Ca cl fp => sTs ifs q7 (G.blk s H _ Ca cl fp)) (fun s H Ca cl fp => sE el q8 (G.blk s H _ Ca cl fp)) (notSet_ok q4) (fun i hi => by rw [eo]; simpa using List.all_eq_true.mp q3 i hi) (by rw [eo]; exact of_decide_eq_true q2)
              rw [eo] at this
              exact this
            · cases h8
          | _ => simp [chkE, chkVar] at h8
      | _ => exact ds_asgN G.nd hN hx hf h4 (sE e h6 G) (notComp_ok (by simpa [compB] using h7))
    · cases h
  | .asg t e, s, X, h, G, hp => by
    simp only [chkS] at h
    split at h
    · rename_i tg v pos
      simp only [Bool.and_eq_true] at h
      obtain ⟨⟨⟨⟨⟨h1, h2⟩, h3⟩, h4⟩, h5⟩, h6⟩ := h
      exact ds_asg (sE e h6 G) (sTg G t h1) (allGe_ok h2) (notComp_ok (t := some tg) (l := pos.line) (env := X.env) h3) (notTup_sw h4) (by rw [asg_cons h5]; rfl)
    · cases h
  | .par is es, s, X, h, G, hp => by
    simp only [chkS] at h
    split at h
    · rename_i ts kt pt vs k2 pt2 pos
      simp only [Bool.and_eq_true, decide_eq_true_eq] at h
      obtain ⟨⟨⟨⟨⟨⟨⟨⟨⟨h1, h2⟩, h3⟩, h4⟩, h5⟩, h6⟩, h7⟩, h8⟩, h9⟩, h10⟩ := h
      have hsw := swap_eq (kt := kt) (k2 := k2) (pt := pt) (pt2 := pt2) G.sc h1 h2
      have hL := sL es h4 h3 G
      cases hc : swC sc ts vs with
      | none =>
        rw [hc] at hsw
        exact ds_parT G.calm (sNms G h9) h6 h7 (allGe_ok h5) hL (Nat.le_trans h8 (by decide)) hsw
      | some ns =>
        rw [hc] at hsw h10
        simp only [par23] at h10
        split at h10
        · simp only [Bool.and_eq_true, decide_eq_true_eq] at h10
          obtain ⟨⟨⟨q1, q2⟩, q3⟩, rfl⟩ := h10
          simp only [chkNms, chkNm, Bool.and_eq_true, decide_eq_true_eq] at h9
          obtain ⟨⟨⟨⟨n1, _⟩, _⟩, _⟩, ⟨⟨⟨n2, _⟩, _⟩, _⟩, _⟩ := h9
          exact ds_par2 G.calm G.nd (by rw [G.N]; exact n1) (by rw [G.N]; exact n2) q1 (by rw [G.sc]; exact q2) (by rw [G.sc]; exact q3) (allGe_ok h5) hL hsw
        · simp only [Bool.and_eq_true, decide_eq_true_eq] at h10
          obtain ⟨⟨⟨⟨⟨⟨q1, q2⟩, q3⟩, q4⟩, q5⟩, q6⟩, rfl⟩ := h10
          simp only [chkNms, chkNm, Bool.and_eq_true, decide_eq_true_eq] at h9
          obtain ⟨⟨⟨⟨n1, _⟩, _⟩, _⟩, ⟨⟨⟨n2, _⟩, _⟩, _⟩, ⟨⟨⟨n3, _⟩, _⟩, _⟩, _⟩ := h9
          exact ds_par3 G.calm G.nd (by rw [G.N]; exact n1) (by rw [G.N]; exact n2) (by rw [G.N]; exact n3) q1 q2 q3 (by rw [G.sc]; exact q4) (by rw [G.sc]; exact q5) (by rw [G.sc]; exact q6) (allGe_ok h5) hL hsw
        · cases h10
    · cases h
  | .app i e, s, X, h, G, hp => by
    simp only [chkS] at h
    split at h
    · simp only [Bool.and_eq_true, decide_eq_true_eq] at h
      obtain ⟨⟨⟨⟨rfl, h1⟩, h2⟩, h3⟩, h4⟩ := h
      obtain ⟨x, p, rfl⟩ := varName h1
      exact ds_app (sVar G h1) (sE e h4 G) h2 h3
    · cases h
  | .ext i e, s, X, h, G, hp => by
    simp only [chkS] at h
    split at h
    · simp only [Bool.and_eq_true, decide_eq_true_eq] at h
      obtain ⟨⟨⟨⟨rfl, h1⟩, h2⟩, h3⟩, h4⟩ := h
      obtain ⟨x, p, rfl⟩ := varName h1
      exact ds_ext (sVar G h1) (sE e h4 G) h2 h3
    · cases h
  | .setI i k e, s, X, h, G, hp => by
    simp only [chkS] at h
    split at h
    · simp only [Bool.and_eq_true] at h
      obtain ⟨⟨⟨⟨h1, h2⟩, h3⟩, h4⟩, h5⟩ := h
      obtain ⟨x, p, rfl⟩ := varName h1
      exact ds_setI (sVar G h1) (sE e h5 G) (sP_of G h4 (sE k h4 G)) h2 h3
    · cases h
  | .expr e, s, X, h, G, hp => by
    simp only [chkS] at h
    split at h
    · simp only [Bool.and_eq_true] at h
      exact ds_expr (sE e h.2 G) (notComp_ok h.1)
    · cases h
  | .cond c a b, s, X, h, G, hp => by
    simp only [chkS] at h
    split at h
    · simp only [Bool.and_eq_true] at h
      exact ds_if (sT c h.1.1 G).1 (sSs a h.1.2 G hp) (sSs b h.2 G hp)
    · cases h
  | .loop t it body, s, X, h, G, hp => by
    simp only [chkS] at h
    split at h
    · simp only [Bool.and_eq_true] at h
      obtain ⟨⟨⟨⟨h1, h2⟩, h3⟩, h4⟩, h5⟩ := h
      exact ds_loop hp G.calm (sI it h1 G) (sTg G t h2) (allGe_ok h3) (sSs body h5 G hp) (notSet_ok h4)
    · cases h
  | .whil fuel c body, s, X, h, G, hp => by
    simp only [chkS] at h
    split at h
    · simp only [Bool.and_eq_true] at h
      exact ds_whil hp (sT c h.1 G).1 (sSs body h.2 G hp)
    · cases h
  | .ret e, s, X, h, G, hp => by
    simp only [chkS] at h
    split at h
    · exact ds_ret (sE e h G)
    · cases h
  | .retN, s, X, h, G, hp => by
    simp only [chkS] at h
    split at h
    · exact ds_retN
    · cases h
  | .rais x, s, X, h, G, hp => by
    simp only [chkS] at h
    split at h
    · simp only [Bool.and_eq_true, decide_eq_true_eq] at h
      obtain ⟨⟨h1, h2⟩, h3⟩ := h
      obtain ⟨Ca, g1, g2, g3, g4, g5, g6⟩ := G.wd.ex _ _ h1
      obtain ⟨Wx, tk, hW⟩ := G.tk
      exact ds_rais (xa := xa) G.calm tk hW g1 (pmk_own PySem.F.excBase_ValueError g3 g2 g4 (raises_own g5 g6) (by show X.env.scope.names.lookup _ = _; rw [G.sc]; exact of_decide_eq_true h2) (okNm1 h3))
    · cases h
  | .brk, s, X, h, G, hp => by
    simp only [chkS] at h
    split at h
    · exact ds_brk
    · cases h
  | .cont, s, X, h, G, hp => by
    simp only [chkS] at h
    split at h
    · exact ds_ct
    · cases h
  | .pass, s, X, h, G, hp => by
    simp only [chkS] at h
    split at h
    · exact ds_pass
    · cases h
theorem sSs : ∀ (ts : List S) {ss : List Stmt} {X : Cx}, chkSs C sc fb ts ss = true → Gd C fa TB xa Φ L X sc fb W → PassesOwn (model X.prog X.w) X.A X.env X.xe → DSs fa TB W C.n X ss (sts Φ ts)
  | [], ss, X, h, G, hp => by
    cases ss with
    | nil => exact dss_nil
    | cons s ss => simp [chkSs] at h
  | t :: ts, ss, X, h, G, hp => by
    cases ss with
    | nil => simp [chkSs] at h
    | cons s ss =>
      simp only [chkSs, Bool.and_eq_true] at h
      exact dss_cons (sS t h.1 G hp) (sSs ts h.2 G hp)
end
end
end DL
namespace DL
open PySem PySem.Spec PyProof.Rows L2
section
variable {fa : List Addr} {TB : List (Addr × Str)} {xa : List Addr} {Φ : List FnSem} {L : Nat} {P : Program} {w : World} {K : PySem.W.Frag} {mg : Str → Option Value} {base : Heap}
theorem es_none {H : Hp} : ∀ {m : Nat}, ES fa K H (List.replicate m none) (List.replicate m none) []
  | 0 => ⟨rfl, rfl⟩
  | m + 1 => by
    simp only [List.replicate_succ, ES]
    exact ⟨none, _, rfl, es_none⟩
theorem es_start {H : Hp} {m : Nat} : ∀ {os : List O} {vs : List V} {A : List Addr}, ORepAll fa K H os vs A → ES fa K H (os.map some ++ List.replicate m none) (vs.map some ++ List.replicate m none) A
  | [], vs, A, r => by
    simp only [ORepAll] at r
    obtain ⟨rfl, rfl⟩ := r
    exact es_none
  | o :: os, vs, A, r => by
    simp only [ORepAll] at r
    obtain ⟨v, q, A1, A2, rfl, rfl, r1, r2⟩ := r
    simp only [List.map_cons, List.cons_append, ES]
    exact ⟨v, _, A1, A2, rfl, rfl, r1, es_start r2⟩
theorem some_of_map {α : Type} {o : Option α} {x : α} (h : o.map some = some (some x)) : o = some x := by
  cases o with
  | none => cases h
  | some y => simpa using h
theorem paired_take {σ : L2.St} {vs : List V} : ∀ {n k : Nat} {us : List V}, Paired (fun i v => σ[i]? = some (some v)) (List.range' k n) us → (∀ i, i < k + n → σ[i]? = vs[i]?.map some) → us = (vs.drop k).take n
  | 0, k, us, h, _ => by
    cases h; simp
  | n + 1, k, us, h, ha => by
    rw [List.range'_succ] at h
    cases h with
    | cons h1 h2 =>
      have := paired_take h2 (vs := vs) (fun i hi => ha i (by omega))
      rw [this]
      rw [ha k (by omega)] at h1
      have hv := some_of_map h1
      have hk : k < vs.length := (List.getElem?_eq_some_iff.mp hv).1
      have hg := (List.getElem?_eq_some_iff.mp hv).2
      rw [List.drop_eq_getElem_cons hk, hg, List.take_succ_cons]
/-- a def of the text keeps its promise -/
theorem fnG_of {C : Cs} {ps : List Str} {nm : Str} {stm : Stmt} {f : Addr} {fd : FuncData} {df : Df} (F : Fun K nm nm stm f fd) (S : FnScope C.N ps (defScope stm)) (hP : df.nP = ps.length) (hS : df.nS = C.N.length) (hI : df.nIn = C.n) (hIP : df.nIn ≤ df.nP) (hPN : ps.length ≤ C.N.length)
    (hb : chkSs C (defScope stm) (fun _ => true) df.body (defBody stm) = true) (wd : Wd C fa TB xa Φ L P w K mg base) : FnG P w K mg base (L + 1) f fd ps (spD fa TB K xa df.nIn (df.sem Φ)) := by
  have len : ∀ vs H Q E, spD fa TB K xa df.nIn (df.sem Φ) vs H Q E → vs.length = ps.length := fun vs H Q E ⟨os, A, r, nd, tb, q⟩ => by
    rw [orepall_len r]
    simp only [Df.sem] at q
    split at q
    · rename_i o outs h
      split at h
      · rename_i hl; rw [hl, hP]
      · cases h
    · rename_i x h
      split at h
      · rename_i hl; rw [hl, hP]
      · cases h
    · exact q.elim
  refine ⟨len, fun A outer s H args us vs Q E hr hgd e0 hbt r hsp => ?_⟩
  have hl := len _ _ _ _ hsp
  obtain ⟨oc, od, kV, doc, pm, an, cdv, ct, osl, rfl, lk, hcd⟩ := F.ex
  refine LamX.run_ofS (CX := L2.CX P w) (N := C.N) (ps := ps) lk hcd S hr e0 hbt r hl fun hr' => ?_
  obtain ⟨os, A0, rO, ndO, tbO, q⟩ := hsp
  refine ⟨rdS fa K TB (fun x H' => E (.ref (xa.getD x.cls 0)) none H') C.n (sts Φ df.body), ?_, ?_⟩
  · refine sSs (sc := defScope stm) (fb := fun _ => true) df.body hb (X := cxOf (L2.CX P w) P w K mg base C.N nm (defScope stm) f cdv A outer s H E) ⟨wd, rfl, S.nd, rfl, rfl, hr', hgd, fun _ _ => rfl, ⟨fun cls d _ H' => E cls d H', takes_of rfl rfl rfl rfl, fun y H' h σ => h⟩⟩ (passes_of (K := fun e s'' => L2.CX P w outer H s E e s'') (E₁ := fun e' s'' => L2.CX P w outer H s E e' s'') rfl)
  · have hlen : os.length = df.nP := by rw [← orepall_len rO, hl, hP]
    have hm : df.nS - df.nP = C.N.length - vs.length := by rw [hS, hP, hl]
    have es0 : ES fa K H (os.map some ++ List.replicate (df.nS - df.nP) none) (L2.start C.N vs) A0 := by
      unfold L2.start
      rw [← hm]
      exact es_start rO
    refine ⟨_, A0, es0, ndO, tbO, ?_⟩
    simp only [Df.sem, hlen, if_true] at q
    -- the slots that are handed back
    have back : ∀ (σ' : L2.St) (H' : Hp) (A' B : List Addr) (e : DEnv) (outs : List O) (v : V) (o : O), AgreeS C.n (L2.start C.N vs) σ' → Step TB A0 H H' → ES fa K H' e σ' A' → getAll e (List.range df.nIn) = some outs → ORep fa K H' o v B → (A' ++ B).Nodup → Fresh A0 H (A' ++ B) →
        outs.length = df.nIn ∧ ∃ Ac, ORepAll fa K H' outs (vs.take df.nIn) Ac ∧ (Ac ++ B).Nodup ∧ Fresh A0 H (Ac ++ B) := fun σ' H' A' B e outs v o ag s' es' hg rv nd' f' => by
      obtain ⟨n1, n2, n3⟩ := List.nodup_append.mp nd'
      obtain ⟨vs0, Ac, Ar, p0, rc, dc, mc, _⟩ := ES.slots List.nodup_range es' n1 hg
      have e1 : vs0 = vs.take df.nIn := by
        rw [List.range_eq_range'] at p0
        have := paired_take (vs := vs) p0 fun i hi => by
          rw [ag.2 i (by rw [← hI]; omega)]
          unfold L2.start
          rw [List.getElem?_append_left (by rw [List.length_map, hl]; omega), List.getElem?_map]
        simpa using this
      subst e1
      have hAc : ∀ x ∈ Ac, x ∈ A' := fun x hx => (mc x).mpr (.inl hx)
      refine ⟨?_, Ac, rc, List.nodup_append.mpr ⟨(List.nodup_append.mp dc).1, n2, fun x hx y hy => n3 x (hAc x hx) y hy⟩, fun a ha => ?_⟩
      · have := orepall_len rc
        rw [List.length_take, hl, ← hP] at this
        omega
      · rcases List.mem_append.mp ha with ha | ha
        · exact f' a (List.mem_append_left _ (hAc a ha))
        · exact f' a (List.mem_append_right _ ha)
    cases hs : sts Φ df.body (os.map some ++ List.replicate (df.nS - df.nP) none) with
    | nx e =>
      rw [hs] at q
      simp only at q
      intro σ' H' A' ag s' es' nd' f'
      cases hg : getAll e (List.range df.nIn) with
      | none => rw [hg] at q; exact q.elim
      | some outs =>
        rw [hg] at q
        obtain ⟨h1, Ac, h2, h3, h4⟩ := back σ' H' A' [] e outs .non (.val .none) ag s' es' hg (show ORep fa K H' (.val .none) .non [] from ⟨rfl, rfl⟩) (by simpa using nd') (by simpa using f')
        exact q.2 .non H' Ac [] s' h2 (show ORep fa K H' (.val .none) .non [] from ⟨rfl, rfl⟩) h3 h4
    | rt o e =>
      rw [hs] at q
      simp only at q
      intro v σ' H' A' B ag s' es' rv nd' f'
      cases hg : getAll e (List.range df.nIn) with
      | none => rw [hg] at q; exact q.elim
      | some outs =>
        rw [hg] at q
        obtain ⟨h1, Ac, h2, h3, h4⟩ := back σ' H' A' B e outs v o ag s' es' hg rv nd' f'
        exact q.2 v H' Ac B s' h2 rv h3 h4
    | exc x e =>
      rw [hs] at q
      exact fun H' s' => q H' s'
    | bk e => rw [hs] at q; exact q.elim
    | ct e => rw [hs] at q; exact q.elim
    | stuck => rw [hs] at q; exact q.elim

/-! ### a table of defs -/
structure DefI where
  nm : Str
  stm : Stmt
  N : List Str
  ps : List Str
  df : Df
structure Tabs0 where
  exs : List Str
  blts : List Str
  gls : List (Str × PyData)
def semTab : List DefI → List FnSem → List FnSem
  | [], Φ => Φ
  | d :: ds, Φ => semTab ds (Φ ++ [d.df.sem Φ])
def csOf (T : Tabs0) (fns : List (Str × Nat)) (d : DefI) : Cs := ⟨d.N, d.df.nIn, fns, T.exs, T.blts, T.gls⟩
def scB (N P : List Str) (sc : Scope) : Bool := decide (sc.kind = .function) && !sc.isCoroutine && !sc.isGenerator && decide N.Nodup && decide (N.take P.length = P) && P.all (fun x => decide (sc.names.lookup x = some .local) || decide (sc.names.lookup x = some .cell)) && sc.names.all fun y => decide (y.2 ≠ .free)
theorem scB_ok {N P : List Str} {sc : Scope} (h : scB N P sc = true) : FnScope N P sc := by
  unfold scB at h
  simp only [Bool.and_eq_true, decide_eq_true_eq, Bool.not_eq_true', List.all_eq_true, Bool.or_eq_true] at h
  obtain ⟨⟨⟨⟨⟨⟨h1, h2⟩, h3⟩, h4⟩, h5⟩, h6⟩, h7⟩ := h
  exact ⟨h1, h2, h3, h4, h5, h6, h7⟩
def chkD (T : Tabs0) (fns : List (Str × Nat)) (d : DefI) : Bool := scB d.N d.ps (defScope d.stm) && decide (d.df.nP = d.ps.length) && decide (d.df.nS = d.N.length) && decide (d.df.nIn ≤ d.df.nP) && decide (d.ps.length ≤ d.N.length) && chkSs (csOf T fns d) (defScope d.stm) (fun _ => true) d.df.body (defBody d.stm)
def chkAll (T : Tabs0) : List DefI → List (Str × Nat) → Bool
  | [], _ => true
  | d :: ds, fns => chkD T fns d && chkAll T ds (fns ++ [(d.nm, d.df.nIn)])
/-- what the top has left of a def -/
structure DefAt (K : PySem.W.Frag) (mg : Str → Option Value) (d : DefI) : Prop where
  ex : ∃ f fd, Fun K d.nm d.nm d.stm f fd ∧ mg d.nm = some (.ref f) ∧ Binds K fd d.ps []
structure TopAt (K : PySem.W.Frag) (mg : Str → Option Value) (xa : List Addr) (T : Tabs0) : Prop where
  blt : ∀ x, T.blts.contains x = true → mg x = none
  gl : ∀ p ∈ T.gls, ∃ (u : Value) (v : V), mg p.1 = some u ∧ RelV v u ∧ ∀ H, Rep K H p.2 v
  ex : ∀ (i : Nat) (nm : Str), T.exs[i]? = some nm → ∃ Ca, xa.getD i 0 = Ca ∧ mg nm = some (.ref Ca) ∧ PySem.W.excIn K Ca veB "ValueError.__new__" = true ∧ PySem.W.keepIn K (.ref Ca) = true ∧ PySem.W.subIn K (.ref Ca) (.type "BaseException") = some true ∧ PySem.W.typeIn K (.ref Ca) = some (.type "type")
def WdT (T : Tabs0) (fns : List (Str × Nat)) (fa : List Addr) (TB : List (Addr × Str)) (xa : List Addr) (Φ : List FnSem) (L : Nat) (P : Program) (w : World) (K : PySem.W.Frag) (mg : Str → Option Value) (base : Heap) : Prop :=
  fns.length = Φ.length ∧ Wd ⟨[], 0, fns, T.exs, T.blts, T.gls⟩ fa TB xa Φ L P w K mg base
theorem Wd.re {C C' : Cs} (h : Wd C fa TB xa Φ L P w K mg base) (e1 : C'.fns = C.fns) (e2 : C'.exs = C.exs) (e3 : C'.blts = C.blts) (e4 : C'.gls = C.gls) : Wd C' fa TB xa Φ L P w K mg base :=
  ⟨fun j nm ni q => h.fn j nm ni (by rw [← e1]; exact q), fun x q => h.blt x (by rw [← e3]; exact q), fun p q => h.gl p (by rw [← e4]; exact q), fun i nm q => h.ex i nm (by rw [← e2]; exact q)⟩
theorem wd_step {T : Tabs0} {fns : List (Str × Nat)} {d : DefI} (h : WdT T fns fa TB xa Φ L P w K mg base) (hc : chkD T fns d = true) (ha : DefAt K mg d) : WdT T (fns ++ [(d.nm, d.df.nIn)]) fa TB xa (Φ ++ [d.df.sem Φ]) (L + 1) P w K mg base := by
  obtain ⟨hl, wd⟩ := h
  unfold chkD at hc
  simp only [Bool.and_eq_true, decide_eq_true_eq] at hc
  obtain ⟨⟨⟨⟨⟨h1, h2⟩, h3⟩, h4⟩, h5⟩, h6⟩ := hc
  obtain ⟨f, fd, F, hm, hb⟩ := ha.ex
  have G := fnG_of (C := csOf T fns d) F (scB_ok h1) h2 h3 rfl h4 h5 h6 (wd.re rfl rfl rfl rfl)
  refine ⟨by simp [hl], ⟨fun j nm ni q => ?_, wd.blt, wd.gl, wd.ex⟩⟩
  by_cases hj : j < fns.length
  · rw [List.getElem?_append_left hj] at q
    obtain ⟨f', fd', ps', φ', g1, g2, g3, g4, g5⟩ := wd.fn j nm ni q
    exact ⟨f', fd', ps', φ', by rw [List.getElem?_append_left (by omega)]; exact g1, g2, g3, g4, g5.mono (Nat.le_succ _)⟩
  · rw [List.getElem?_append_right (by omega)] at q
    have hj0 : j - fns.length = 0 := by
      cases hz : j - fns.length with
      | zero => rfl
      | succ k => rw [hz] at q; simp at q
    rw [hj0] at q
    simp only [List.getElem?_cons_zero, Option.some.injEq, Prod.mk.injEq] at q
    obtain ⟨rfl, rfl⟩ := q
    exact ⟨f, fd, d.ps, d.df.sem Φ, by rw [List.getElem?_append_right (by omega), show j - Φ.length = 0 by omega]; rfl, hm, F.kp, hb, G⟩
theorem wd_all {T : Tabs0} : ∀ {ds : List DefI} {fns : List (Str × Nat)} {Φ : List FnSem} {L : Nat}, WdT T fns fa TB xa Φ L P w K mg base → chkAll T ds fns = true → (∀ d ∈ ds, DefAt K mg d) → WdT T (fns ++ ds.map fun d => (d.nm, d.df.nIn)) fa TB xa (semTab ds Φ) (L + ds.length) P w K mg base
  | [], fns, Φ, L, h, _, _ => by simpa [semTab] using h
  | d :: ds, fns, Φ, L, h, hc, ha => by
    simp only [chkAll, Bool.and_eq_true] at hc
    have := wd_all (wd_step h hc.1 (ha d (by simp))) hc.2 fun d' hd => ha d' (by simp [hd])
    simp only [semTab, List.map_cons, List.length_cons]
    rw [List.append_assoc] at this
    rw [show L + (ds.length + 1) = L + 1 + ds.length by omega]
    exact this
theorem wd_nil {T : Tabs0} (t : TopAt K mg xa T) : WdT T [] fa TB xa [] 0 P w K mg base := ⟨rfl, ⟨fun j nm ni q => by simp at q, t.blt, t.gl, t.ex⟩⟩
end
end DL
namespace DL
open PySem PySem.Spec PyProof.Rows L2
/-- the law's def, behind the table of the others -/
theorem law_fnG {P : Program} {w : World} {K : PySem.W.Frag} {mg : Str → Option Value} {base : Heap} {xa : List Addr} {T : Tabs0} {ds : List DefI} {d : DefI} {f : Addr} {fd : FuncData} (t : TopAt K mg xa T) (ha : ∀ d ∈ ds, DefAt K mg d) (hc : chkAll T ds [] = true)
    (hd : chkD T (ds.map fun d => (d.nm, d.df.nIn)) d = true) (F : Fun K d.nm d.nm d.stm f fd) : FnG P w K mg base (ds.length + 1) f fd d.ps (spD [] [] K xa d.df.nIn (d.df.sem (semTab ds []))) := by
  have W := wd_all (fa := []) (TB := []) (P := P) (w := w) (base := base) (wd_nil t) hc ha
  rw [List.nil_append, Nat.zero_add] at W
  unfold chkD at hd
  simp only [Bool.and_eq_true, decide_eq_true_eq] at hd
  obtain ⟨⟨⟨⟨⟨h1, h2⟩, h3⟩, h4⟩, h5⟩, h6⟩ := hd
  exact fnG_of (C := csOf T (ds.map fun d => (d.nm, d.df.nIn)) d) F (scB_ok h1) h2 h3 rfl h4 h5 h6 (W.2.re rfl rfl rfl rfl)
theorem ints_rep {K : PySem.W.Frag} {H : Hp} : ∀ ns : List Int, RepAll K H (ns.map PyData.int) (ns.map V.int)
  | [] => rfl
  | n :: ns => ⟨.int n, ns.map V.int, rfl, rfl, ints_rep ns⟩
/-- the promise at a script -/
theorem law_sp {K : PySem.W.Frag} {H : Hp} {xa : List Addr} {φ : FnSem} {a : Addr} {ns : List Int} (hF : FzL K H a (ns.map V.int)) (hφ : φ.run [.val (.list (ns.map PyData.int))] = .ok (.val (.bool true)) []) : spD [] [] K xa 0 φ [.ref a] H (fun v _ => v = .bl true) fun _ _ _ => False := by
  refine ⟨[.val (.list (ns.map PyData.int))], [], ⟨.ref a, [], [], [], rfl, rfl, ⟨rfl, a, _, rfl, hF, ints_rep ns⟩, rfl, rfl⟩, List.nodup_nil, (fun p hp => absurd hp (by simp)), ?_⟩
  rw [hφ]
  exact ⟨rfl, fun v H' A' B _ _ r _ _ => r.2⟩
theorem law_callG {P : Program} {w : World} {K : PySem.W.Frag} {mg mb : Str → Option Value} {k : Nat} {fa a : Addr} {fd : FuncData} {x : Str} {sp : Sp} {s₁ : Shared} {vs : List Value} {ns : List Int}
    (KX : K.In s₁.heap) (hns : s₁.heap.Ns mainGlobals mg) (hb : s₁.heap.Ns builtinsNs mb) (hbb : ∀ x : Str, x ≠ "__name__" → mb x = bootBuiltins x) (hlim : s₁.heap.NoLimit) (hg : s₁.gens = #[])
    (ha : s₁.heap.get? a = some { cls := .type "list", data := .seq vs.toArray }) (hi : IntsAre vs ns) (hl : ns.length ≤ sizeLine) (hr : Room k callerA)
    (F : ∀ base : Heap, K.In base → base.Ns mainGlobals mg → FnG P w K mg base k fa fd [x] sp) (hbind : ∀ (s : Shared) (u : Value), BindsTo s fd ⟨[u], []⟩ [(x, u)])
    (hsp : ∀ H : Hp, FzL K H a (ns.map V.int) → sp [.ref a] H (fun v _ => v = .bl true) fun _ _ _ => False) :
    codeAny (model P w) callerA (.call (.ref fa) ⟨[.ref a], []⟩) (fun r s' => r = .ok (.ret (.bool true)) ∧ OldK s₁.heap s'.heap ∧ s'.os = s₁.os ∧ AllBare s'.gens) s₁ := by
  have rv := vals_ints hi
  have lenV := hi.length
  have core : ∀ H : Hp, Only H → FzL K H a (ns.map V.int) → HOk P w H s₁.heap → (∀ b, H b ≠ none → b = a) → (H a ≠ none → K.lookup a = none) →
      codeAny (model P w) callerA (.call (.ref fa) ⟨[.ref a], []⟩) (fun r s' => r = .ok (.ret (.bool true)) ∧ OldK s₁.heap s'.heap ∧ s'.os = s₁.os ∧ AllBare s'.gens) s₁ := by
    intro H hO hS hok hA hK
    have only : ∀ b, b ≠ a → H b = none := fun b nb => Classical.byContradiction fun z => nb (hA b z)
    have isa : ∀ {b : Addr} {o : Obj}, s₁.heap.get? b = some o → (∀ vs n, o.data ≠ .seq vs n) → (hidT s₁.heap H).get? b = some o := fun {b o} e nd =>
      hidT_get e (only b fun z => by
        subst z
        rw [ha] at e
        cases e
        exact nd _ _ rfl)
    have nsK : ∀ {b : Addr} {m : Str → Option Value}, s₁.heap.Ns b m → (hidT s₁.heap H).Ns b m := fun {b m} ⟨o, es, ep, e, d, r⟩ => ⟨o, es, ep, isa e fun _ _ z => (by rw [d] at z; cases z), d, r⟩
    have hKb : K.In (hidT s₁.heap H) := fun b o e => hidT_get (KX b o e) (by
      by_cases hb : b = a
      · subst hb
        exact Classical.byContradiction fun z => by
          rw [hK z] at e
          cases e
      · exact only b hb)
    have hM : L2.Mod K mg (hidT s₁.heap H) := ⟨hKb, nsK hns, ⟨mb, nsK hb, hbb⟩, let ⟨mc, h1, h2⟩ := hlim; ⟨mc, nsK h1, h2⟩⟩
    have e0 : Env0 P w K mg (hidT s₁.heap H) callerA [] s₁ H := ⟨rfl, hM, fun b o e => of_hidT e, Nat.le_of_eq (hidT_size _ _), trivial, fun b hb => absurd (show b ∈ ([] : List Addr) from hb) (by simp), hok, .of_eq hg⟩
    refine codeAny_mono ((F _ hKb (nsK hns)).run callerA [] s₁ H ⟨[.ref a], []⟩ [.ref a] [.ref a] _ _ hr rfl e0 (hbind s₁ (.ref a)) (.cons rfl .nil) (hsp H hS)) fun r s' h => ?_
    cases r with
    | error e =>
      obtain ⟨_, _, _, _, _, _, _, _, _, _, _, _, z⟩ := h
      exact z.elim
    | ok fl =>
      cases fl with
      | ret u =>
        obtain ⟨v, H', os, bare, un, hok', r', q⟩ := h
        have q' : v = .bl true := q
        subst q'
        obtain rfl : u = Value.bool true := r'
        refine ⟨rfl, OldK.of_keep fun b o e => ?_, os, bare⟩
        rcases hO b with z | ⟨ob, xs, z⟩
        · exact un.keep b o e z (by intro z; exact absurd (show b ∈ ([] : List Addr) from z) (by simp)) (by simp)
        · obtain ⟨e1, _⟩ := hok b _ z
          obtain ⟨e2, _⟩ := hok' b _ (un.frzs b ob _ z)
          rw [e] at e1; cases e1
          exact e2
      | next => exact False.elim h
      | brk => exact False.elim h
      | cont => exact False.elim h
  cases hk : K.lookup a with
  | some o =>
    have e := KX a o hk
    rw [ha] at e
    cases e
    exact core (fun _ => none) (fun _ => .inl rfl) (.inr ⟨vs.toArray, _, hk, by rw [List.size_toArray, lenV]; exact hl, by simpa using rv⟩) (fun b u z => nomatch z) (fun b z => absurd rfl z) fun z => absurd rfl z
  | none =>
    refine core (fun b => if b = a then some (.frz { cls := .type "list", data := .seq vs.toArray } (.lst (ns.map V.int))) else none) (fun b => ?_) (.inl ⟨_, if_pos rfl⟩) (fun b u z => ?_) (fun b z => Classical.byContradiction fun nb => z (if_neg nb)) fun _ => hk
    · by_cases hb : b = a
      · exact .inr ⟨_, _, if_pos hb⟩
      · exact .inl (if_neg hb)
    · by_cases hb : b = a
      · have z' := (if_pos hb).symm.trans z
        cases z'
        subst hb
        exact ⟨ha, by rw [List.length_map]; exact hl, vs, _, rv, ha⟩
      · have z' := (if_neg hb).symm.trans z
        cases z'
/-- the goal that k_head leaves -/
theorem walk_dl {l : PySem.W.OpenLaw} {n k : Nat} {q : Program} {loose : List Str} {XP : (Str → Option Value) → Heap → Prop} {YP : World → Heap → Prop} {d : DefRec} {K : Params → PySem.W.Frag} {x : Str} {φ : FnSem}
    (hn : l.most = some n) (hn2 : n ≤ sizeLine) (hdf : d.params.defaults = []) (hr : Room k callerA)
    (hY : ∀ (w : World) (h : Heap), YP w h → (K w.params).In h)
    (F : ∀ (w : World) (mg : Str → Option Value) (fa : Addr) (h : Heap), (K w.params).In h → h.Ns mainGlobals mg → mg d.name = some (.ref fa) →
      ∃ (fd : FuncData) (xa : List Addr), (∀ (s : Shared) (u : Value), BindsTo s fd ⟨[u], []⟩ [(x, u)]) ∧
        ∀ base : Heap, (K w.params).In base → base.Ns mainGlobals mg → FnG l.prog w (K w.params) mg base k fa fd [x] (spD [] [] (K w.params) xa 0 φ))
    (hφ : ∀ ns : List Int, ns.length ≤ n → (∀ z ∈ ns, Builtin.Int.intBits z ≤ 1048576) → φ.run [.val (.list (ns.map PyData.int))] = .ok (.val (.bool true)) []) :
    PySem.W.WalkO q loose XP YP l.row.toRowW d [] (fun f vs => PySem.call f vs) := by
  refine Att.attach_callB hn hdf fun w s₀ s₁ mg mb fa o pm cd doc a vs ns G Y ho hd hcd hmg hobj hints hlen hbits hg => ?_
  have KX := hY w _ Y
  obtain ⟨fd, xa, hb, hF⟩ := F w mg fa _ KX G.T.g hmg
  exact law_callG KX G.T.g G.T.b G.T.builtins G.T.nolimit hg hobj hints (Nat.le_trans hlen hn2) hr hF hb fun H hS => law_sp hS (hφ ns hlen hbits)
theorem mk_at {K : PySem.W.Frag} {h : Heap} {mg : Str → Option Value} {d : DefI} {f : Addr} {fd : FuncData} (X : K.In h) (G : h.Ns mainGlobals mg) (a : PySem.W.nsIn K mainGlobals d.nm = some (some (.ref f))) (F : Fun K d.nm d.nm d.stm f fd) (b : Binds K fd d.ps []) : DefAt K mg d := ⟨f, fd, F, PySem.W.mg_of X G a, b⟩
end DL
namespace DL
open PySem PySem.Spec PyProof.Rows L2
section
variable {K : PySem.W.Frag} {h : Heap} {mg : Str → Option Value}
structure ExAt (K : PySem.W.Frag) (mg : Str → Option Value) (nm : Str) (Ca : Addr) : Prop where
  g : mg nm = some (.ref Ca)
  e : PySem.W.excIn K Ca veB "ValueError.__new__" = true
  k : PySem.W.keepIn K (.ref Ca) = true
  s : PySem.W.subIn K (.ref Ca) (.type "BaseException") = some true
  t : PySem.W.typeIn K (.ref Ca) = some (.type "type")
theorem ex_mk {nm : Str} {Ca : Addr} (X : K.In h) (G : h.Ns mainGlobals mg) (a : PySem.W.nsIn K mainGlobals nm = some (some (.ref Ca))) (e : PySem.W.excIn K Ca veB "ValueError.__new__" = true) (k : PySem.W.keepIn K (.ref Ca) = true) (s : PySem.W.subIn K (.ref Ca) (.type "BaseException") = some true) (t : PySem.W.typeIn K (.ref Ca) = some (.type "type")) : ExAt K mg nm Ca :=
  ⟨PySem.W.mg_of X G a, e, k, s, t⟩
theorem exs_get : ∀ {nms : List Str} {xa : List Addr}, Paired (fun nm Ca => ExAt K mg nm Ca) nms xa → ∀ (i : Nat) (nm : Str), nms[i]? = some nm → ∃ Ca, xa.getD i 0 = Ca ∧ ExAt K mg nm Ca
  | _, _, .nil, i, nm, e => by simp at e
  | _, _, .cons h1 h2, 0, nm, e => by
    simp only [List.getElem?_cons_zero, Option.some.injEq] at e
    subst e
    exact ⟨_, rfl, h1⟩
  | _, _, .cons h1 h2, i + 1, nm, e => exs_get h2 i nm (by simpa using e)
def BltAt (mg : Str → Option Value) (bs : List Str) : Prop := ∀ x ∈ bs, mg x = none
theorem blt_nil : BltAt mg [] := fun x hx => absurd hx (by simp)
theorem blt_cons {x : Str} {bs : List Str} (X : K.In h) (G : h.Ns mainGlobals mg) (z : PySem.W.nsIn K mainGlobals x = some none) (r : BltAt mg bs) : BltAt mg (x :: bs) := fun y hy => by
  rcases List.mem_cons.mp hy with e | e
  · rw [e]; exact PySem.W.mg_none_of X G z
  · exact r y e
def FnsAt (K : PySem.W.Frag) (mg : Str → Option Value) (ds : List DefI) : Prop := ∀ d ∈ ds, DefAt K mg d
theorem fns_nil : FnsAt K mg [] := fun x hx => absurd hx (by simp)
theorem fns_cons {d : DefI} {ds : List DefI} (a : DefAt K mg d) (r : FnsAt K mg ds) : FnsAt K mg (d :: ds) := fun y hy => by
  rcases List.mem_cons.mp hy with e | e
  · rw [e]; exact a
  · exact r y e
theorem top_mk {xs : List Str} {bs : List Str} {xa : List Addr} (hx : Paired (fun nm Ca => ExAt K mg nm Ca) xs xa) (hb : BltAt mg bs) : TopAt K mg xa ⟨xs, bs, []⟩ :=
  ⟨fun x hc => hb x (by simpa using hc), fun p hp => absurd hp (by simp), fun i nm e => let ⟨Ca, h1, h2⟩ := exs_get hx i nm e; ⟨Ca, h1, h2.g, h2.e, h2.k, h2.s, h2.t⟩⟩
end
end DL
namespace DL
open PySem PySem.Spec PyProof.Rows L2
/-! ### the length of what repr shows -/
theorem int_len {i : Int} (h : i.natAbs.log2 < 1920) : (Str.ofString (toString i)).length ≤ 1921 := by
  rw [ofString_len]
  have hb : ∀ n : Nat, n.log2 < 1920 → (Nat.repr n).length ≤ 1920 := fun n hn => by
    have h1 : n < 10 ^ 1920 := by
      have : n < 2 ^ 1920 := by
        by_cases hz : n = 0
        · subst hz; exact Nat.two_pow_pos _
        · exact (Nat.log2_lt hz).mp hn
      exact Nat.lt_of_lt_of_le this (Nat.pow_le_pow_left (by decide) _)
    have := (Nat.length_toDigits_le_iff (b := 10) (n := n) (k := 1920) (by decide) (by decide)).mpr h1
    simpa [Nat.repr] using this
  cases i with
  | ofNat m =>
    have := hb m h
    show (Nat.repr m).length ≤ _
    omega
  | negSucc m =>
    have := hb (m + 1) h
    show ("-" ++ Nat.repr (m + 1)).length ≤ _
    have h1 : "-".length = 1 := by first | rfl | decide
    rw [String.length_append]
    omega
def okS (x : Str) : Prop := ∀ c ∈ x.cps.toList, c < 16 ^ 8
theorem okS_of (s : String) : okS (Str.ofString s) := by
  intro c hc
  simp only [Str.ofString_eq_toList, List.mem_map] at hc
  obtain ⟨d, _, rfl⟩ := hc
  have h1 : d.toNat < 1114112 := by
    have := d.valid
    rcases this with h | h
    · have : d.val.toNat < 55296 := h
      show d.val.toNat < _
      omega
    · have : d.val.toNat < 1114112 := h.2
      exact this
  omega
theorem okS_append {x y : Str} (hx : okS x) (hy : okS y) : okS (x ++ y) := by
  intro c hc
  rw [Str.cps_append] at hc
  simp only [Array.toList_append, List.mem_append] at hc
  rcases hc with hc | hc
  · exact hx c hc
  · exact hy c hc
mutual
def wt : PyData → Nat
  | .none => 4
  | .bool _ => 5
  | .int _ => 1921
  | .str x => 10 * x.length + 2
  | .list xs => 2 + wts xs
  | .tuple xs => 3 + wts xs
  | .dict _ => 0
def wts : List PyData → Nat
  | [] => 0
  | x :: xs => wt x + 2 + wts xs
end
mutual
def gd : PyData → Prop
  | .none => True
  | .bool _ => True
  | .int i => i.natAbs.log2 < 1920
  | .str x => okS x
  | .list xs => gds xs
  | .tuple xs => gds xs
  | .dict _ => False
def gds : List PyData → Prop
  | [] => True
  | x :: xs => gd x ∧ gds xs
end
theorem join_le (ts : List Str) : (Str.join ", " ts).length ≤ piled ts := by
  cases ts with
  | nil => simp [Str.join, Str.length, Str.empty, piled]
  | cons x r =>
    have := join_length_add (x :: r) (by simp)
    omega
mutual
theorem shown_le : ∀ d : PyData, gd d → d.shown.length ≤ wt d
  | .none, _ => by rw [PyData.shown_none]; decide
  | .bool b, _ => by rw [PyData.shown_bool]; cases b <;> decide
  | .int i, h => by rw [PyData.shown_int]; exact int_len (by simpa [gd] using h)
  | .str x, h => by
    rw [PyData.shown_str]
    exact StrLaws.reprText_len x (by simpa [gd, okS] using h)
  | .list xs, h => by
    rw [PyData.shown_list, Str.length_append, Str.length_append]
    have := shownAll_le xs (by simpa [gd] using h)
    have h2 := join_le (PyData.shownAll xs)
    have e1 : (("[" : String) : Str).length = 1 := rfl
    have e2 : (("]" : String) : Str).length = 1 := rfl
    simp only [wt]
    rw [e1, e2]
    omega
  | .tuple xs, h => by
    rw [PyData.shown_tuple, Str.length_append, Str.length_append]
    have := shownAll_le xs (by simpa [gd] using h)
    have h2 := join_le (PyData.shownAll xs)
    have e1 : (("(" : String) : Str).length = 1 := rfl
    have e2 : ((if xs.length == 1 then ",)" else ")" : String) : Str).length ≤ 2 := by split <;> decide
    simp only [wt]
    rw [e1]
    omega
  | .dict _, h => by simp [gd] at h
theorem shownAll_le : ∀ xs : List PyData, gds xs → piled (PyData.shownAll xs) ≤ wts xs
  | [], _ => by simp [PyData.shownAll, piled, wts]
  | x :: xs, h => by
    simp only [gds] at h
    rw [PyData.shownAll_cons, piled_cons]
    have h1 := shown_le x h.1
    have h2 := shownAll_le xs h.2
    simp only [wts]
    omega
end
mutual
theorem gd_show : ∀ d : PyData, gd d → d.showable = true ∧ d.hasDict = false
  | .none, _ => ⟨rfl, rfl⟩
  | .bool b, _ => ⟨rfl, rfl⟩
  | .int i, h => ⟨by simpa [PyData.showable, gd] using h, by simp [PyData.hasDict]⟩
  | .str x, h => ⟨by simp [PyData.showable], by simp [PyData.hasDict]⟩
  | .list xs, h => by
    simp only [PyData.showable, PyData.hasDict]
    exact gds_show xs (by simpa [gd] using h)
  | .tuple xs, h => by
    simp only [PyData.showable, PyData.hasDict]
    exact gds_show xs (by simpa [gd] using h)
  | .dict _, h => by simp [gd] at h
theorem gds_show : ∀ xs : List PyData, gds xs → PyData.showableAll xs = true ∧ PyData.hasDictAll xs = false
  | [], _ => by simp [PyData.showableAll, PyData.hasDictAll]
  | x :: xs, h => by
    simp only [gds] at h
    have h1 := gd_show x h.1
    have h2 := gds_show xs h.2
    simp [PyData.showableAll, PyData.hasDictAll, h1, h2]
end
/-- repr of a datum in a list -/
theorem repr_ok {d : PyData} (h : gd d) (hw : wt d ≤ 1000000) (hd : PyData.depth d ≤ 50) : bltD .repr [.list [d]] = some (.val (.str (PyData.shown (.list [d])))) := by
  have g : gd (.list [d]) := by simp only [gd, gds]; exact ⟨h, trivial⟩
  have h1 := gd_show _ g
  have h2 := shown_le _ g
  have h3 : PyData.depth (.list [d]) ≤ 60 := by simp only [PyData.depth, PyData.depthAll]; omega
  have h4 : (PyData.shown (.list [d])).length ≤ sizeLine := by
    refine Nat.le_trans h2 ?_
    simp only [wt, wts]
    have : sizeLine = 16777216 := by decide
    omega
  exact if_pos ⟨h1.1, h1.2, h3, h4⟩
end DL
namespace DL
open PySem PySem.Spec PyProof.Rows L2
/-! ### the evaluator's rules for simp -/
theorem M.bind_ok {α β : Type} {m : M α} {k : α → M β} {e e' : DEnv} {a : α} (h : m e = .ok a e') : (m >>= k) e = k a e' := by
  rw [M.bind_def, h]
theorem runM_ok {α : Type} {m : M α} {k : α → DEnv → SR} {e e' : DEnv} {a : α} (h : m e = .ok a e') : runM m k e = k a e' := by
  unfold runM; rw [h]
theorem M.of_some {α : Type} (a : α) (e : DEnv) : M.of (some a) e = .ok a e := rfl
theorem seqS_nx (e : DEnv) (k : DEnv → SR) : seqS (.nx e) k = k e := rfl
theorem seqS_rt (o : O) (e : DEnv) (k : DEnv → SR) : seqS (.rt o e) k = .rt o e := rfl
theorem atI_0 (x : PyData) (xs : List PyData) : L2.atI (x :: xs) 0 = some x := atI_nat (j := 0) rfl
theorem atI_1 (x y : PyData) (xs : List PyData) : L2.atI (x :: y :: xs) 1 = some y := atI_nat (j := 1) rfl
theorem log2_of {n k : Nat} (h : n < 2 ^ k) (hk : 0 < k) : n.log2 < k := by
  by_cases hz : n = 0
  · subst hz; simpa using hk
  · exact (Nat.log2_lt hz).mpr h
theorem size2 : 2 ≤ sizeLine := by decide
theorem size1 : 1 ≤ sizeLine := by decide
theorem whileD_succ (c : M Bool) (body : DEnv → SR) (n : Nat) (e : DEnv) : whileD c body (n + 1) e = runM c (fun b e1 => if b then match body e1 with
    | .nx e2 => whileD c body n e2
    | .ct e2 => whileD c body n e2
    | .bk e2 => .nx e2
    | .rt o e2 => .rt o e2
    | .exc x e2 => .exc x e2
    | .stuck => .stuck else .nx e1) e := rfl
section
variable (i j : Int) (x y : Str) (xs ys : List PyData)
theorem b_add : binD .Add (.int i) (.int j) = some (.val (.int (i + j))) := rfl
theorem b_sub : binD .Sub (.int i) (.int j) = some (.val (.int (i - j))) := rfl
theorem b_mul (h : i.natAbs.log2 + j.natAbs.log2 < 1000000) : binD .Mult (.int i) (.int j) = some (.val (.int (i * j))) := if_pos h
theorem b_fdiv (h : j ≠ 0 ∧ j.natAbs.log2 < 9000) : binD .FloorDiv (.int i) (.int j) = some (.val (.int (i.fdiv j))) := if_pos h
theorem b_mod (h : j ≠ 0) : binD .Mod (.int i) (.int j) = some (.val (.int (i.fmod j))) := if_pos h
theorem b_cat (h : x.length + y.length ≤ sizeLine) : binD .Add (.str x) (.str y) = some (.val (.str (x ++ y))) := if_pos h
theorem c_eq : cmpD .Eq (.int i) (.int j) = some (decide (i = j)) := rfl
theorem c_ne : cmpD .NotEq (.int i) (.int j) = some (!decide (i = j)) := rfl
theorem c_eqs : cmpD .Eq (.str x) (.str y) = some (decide (x = y)) := rfl
theorem c_lt : cmpD .Lt (.int i) (.int j) = some (decide (i < j)) := rfl
theorem c_le : cmpD .LtE (.int i) (.int j) = some (decide (i ≤ j)) := rfl
theorem c_gt : cmpD .Gt (.int i) (.int j) = some (decide (j < i)) := rfl
theorem c_ge : cmpD .GtE (.int i) (.int j) = some (decide (j ≤ i)) := rfl
theorem t_bl (b : Bool) : truD (.bool b) = some b := rfl
theorem g_l : getD' (.list xs) (.int i) = L2.atI xs i := rfl
theorem g_t : getD' (.tuple xs) (.int i) = L2.atI xs i := rfl
theorem k_lenT (h : xs.length ≤ sizeLine) : bltD .len [.tuple xs] = some (.val (.int xs.length)) := if_pos h
theorem k_lenL (h : xs.length ≤ sizeLine) : bltD .len [.list xs] = some (.val (.int xs.length)) := if_pos h
theorem k_abs : bltD .abs [.int i] = some (.val (.int (if i < 0 then -i else i))) := rfl
theorem k_int : bltD .int [.int i] = some (.val (.int i)) := rfl
theorem k_intb (b : Bool) : bltD .int [.bool b] = some (.val (.int (if b then 1 else 0))) := rfl
theorem k_max : bltD .max2 [.int i, .int j] = some (.val (.int (if j > i then j else i))) := rfl
theorem k_min : bltD .min2 [.int i, .int j] = some (.val (.int (if j < i then j else i))) := rfl
theorem k_str (h : i.natAbs.log2 < 1920) : bltD .str [.int i] = some (.val (.str (toString i))) := if_pos h
theorem pure_ok {α : Type} (a : α) (e : DEnv) : (Pure.pure a : M α) e = .ok a e := rfl
theorem of_ok' {α : Type} (a : α) (e : DEnv) : M.of (some a) e = .ok a e := rfl
theorem rd_o {d : PyData} (e : DEnv) : rd (.o (.val d)) e = .ok d e := rfl
theorem rd_ol {os : List O} {ds : List PyData} (h : valsOf os = some ds) (e : DEnv) : rd (.o (.lst os)) e = .ok (.list ds) e := by
  show M.of ((valsOf os).map PyData.list) e = _
  rw [h]; rfl
theorem rd_s {n : Nat} {o : O} {e : DEnv} (h : e[n]? = some (some o)) : rd (.s n) e = M.of o.rdv e := by
  show (match e[n]? with | some (some o) => M.of o.rdv e | _ => .stuck) = _
  rw [h]
theorem rdv_v (d : PyData) : (O.val d).rdv = some d := rfl
theorem rdv_l (os : List O) : (O.lst os).rdv = (valsOf os).map PyData.list := rfl
theorem fz_v (d : PyData) : (O.val d).fz = some d := by simp [O.fz]
theorem slotV_v {n : Nat} {d : PyData} {e : DEnv} (h : e[n]? = some (some (.val d))) : slotV n e = .ok (.val d) (e.set n (some (.val d))) := by
  unfold slotV
  rw [h]
  simp [O.fz]
theorem slotP_s {n : Nat} {o : O} {e : DEnv} (h : e[n]? = some (some o)) : slotP n e = .ok (.s n) e := by
  unfold slotP
  rw [h]
theorem pn_var (n : Nat) (m : M O) (e : DEnv) : pnOf (.var n) m e = slotP n e := rfl
end
section
variable {Φ : List FnSem} {c : M Bool} {body : DEnv → SR} {n : Nat} {e e1 e2 e3 : DEnv} {s : S} {r : List S} {o : O} {fs : PyData → M Unit} {d : PyData} {ds : List PyData}
theorem wh_true (hc : c e = .ok true e1) (hb : body e1 = .nx e2) : whileD c body (n + 1) e = whileD c body n e2 := by
  rw [whileD_succ, runM_ok hc]
  simp only [if_true, hb]
theorem wh_false (hc : c e = .ok false e1) : whileD c body (n + 1) e = .nx e1 := by
  rw [whileD_succ, runM_ok hc]
  simp only [Bool.false_eq_true, if_false]
theorem for_nil : forD fs body [] e = .nx e := rfl
theorem for_nx (hs : fs d e = .ok () e1) (hb : body e1 = .nx e2) : forD fs body (d :: ds) e = forD fs body ds e2 := by
  show runM _ _ _ = _
  rw [runM_ok hs]
  simp only [hb]
theorem for_bk (hs : fs d e = .ok () e1) (hb : body e1 = .bk e2) : forD fs body (d :: ds) e = .nx e2 := by
  show runM _ _ _ = _
  rw [runM_ok hs]
  simp only [hb]
theorem sts_nx (h : DL.st Φ s e = .nx e1) : sts Φ (s :: r) e = sts Φ r e1 := by
  show seqS _ _ = _
  rw [h]; rfl
theorem sts_rt (h : DL.st Φ s e = .rt o e1) : sts Φ (s :: r) e = .rt o e1 := by
  show seqS _ _ = _
  rw [h]; rfl
theorem sts_bk (h : DL.st Φ s e = .bk e1) : sts Φ (s :: r) e = .bk e1 := by
  show seqS _ _ = _
  rw [h]; rfl
theorem sts_nil : sts Φ [] e = .nx e := rfl
theorem sem_rt {d : Df} {os outs : List O} (hl : os.length = d.nP) (h : sts Φ d.body (os.map some ++ List.replicate (d.nS - d.nP) none) = .rt o e) (hg : getAll e (List.range d.nIn) = some outs) : (d.sem Φ).run os = .ok o outs := by
  show (if _ then _ else _) = _
  rw [if_pos hl, h]
  simp only [hg]
theorem st_asgN {i : Nat} {x : E} (h : ev Φ x e = .ok o e1) (hi : i < e1.length) : DL.st Φ (.asgN i x) e = .nx (e1.set i (some o)) := by
  show runM _ _ _ = _
  rw [runM_ok h, if_pos hi]
theorem st_ret {x : E} (h : ev Φ x e = .ok o e1) : DL.st Φ (.ret x) e = .rt o e1 := by
  show runM _ _ _ = _
  rw [runM_ok h]
theorem st_true {t : T} {a b : List S} (h : evT Φ t e = .ok true e1) : DL.st Φ (.cond t a b) e = sts Φ a e1 := by
  show runM _ _ _ = _
  rw [runM_ok h]; rfl
theorem st_false {t : T} {a b : List S} (h : evT Φ t e = .ok false e1) : DL.st Φ (.cond t a b) e = sts Φ b e1 := by
  show runM _ _ _ = _
  rw [runM_ok h]; rfl
theorem st_loop {t : Tg} {it : It} {b : List S} (h : evI Φ it e = .ok ds e1) : DL.st Φ (.loop t it b) e = forD (asgD t) (sts Φ b) ds e1 := by
  show runM _ _ _ = _
  rw [runM_ok h]
/-- a loop by an invariant, with an early end -/
theorem for_inv (I : Nat → DEnv → Prop) (J : DEnv → Prop) : ∀ (ds : List PyData) (k : Nat) (e : DEnv), I k e → (∀ i d e, ds[i]? = some d → I (k + i) e → ∃ e1 e2, fs d e = .ok () e1 ∧ ((body e1 = .nx e2 ∧ I (k + i + 1) e2) ∨ (body e1 = .bk e2 ∧ J e2))) → ∃ e', forD fs body ds e = .nx e' ∧ (I (k + ds.length) e' ∨ J e')
  | [], k, e, h, _ => ⟨e, rfl, .inl h⟩
  | d :: ds, k, e, h, f => by
    obtain ⟨e1, e2, h1, h2⟩ := f 0 d e rfl h
    rcases h2 with ⟨h2, h3⟩ | ⟨h2, h3⟩
    · obtain ⟨e', h4, h5⟩ := for_inv I J ds (k + 1) e2 h3 fun i d e hd hi => by
        have := f (i + 1) d e (by simpa using hd) (by rw [show k + (i + 1) = k + 1 + i by omega]; exact hi)
        rw [show k + (i + 1) = k + 1 + i by omega] at this
        exact this
      exact ⟨e', (for_nx h1 h2).trans h4, by rw [show k + (d :: ds).length = k + 1 + ds.length by simp; omega]; exact h5⟩
    · exact ⟨e2, for_bk h1 h2, .inr h3⟩
end
theorem fzAll_val : ∀ ds : List PyData, O.fzAll (ds.map O.val) = some ds
  | [] => rfl
  | d :: ds => by simp [O.fzAll, O.fz, fzAll_val ds]
theorem fz_lst (ds : List PyData) : (O.lst (ds.map O.val)).fz = some (.list ds) := by simp [O.fz, fzAll_val]
theorem valsOf_val : ∀ ds : List PyData, valsOf (ds.map O.val) = some ds
  | [] => rfl
  | d :: ds => by simp [valsOf, valsOf_val ds]
theorem slotV_f {n : Nat} {o : O} {d : PyData} {e : DEnv} (h : e[n]? = some (some o)) (hf : o.fz = some d) : slotV n e = .ok (.val d) (e.set n (some (.val d))) := by
  unfold slotV
  rw [h]
  simp only [hf]
theorem it_l (xs : List PyData) : itD (.list xs) = some xs := rfl
theorem st_app {Φ : List FnSem} {i : Nat} {x : E} {e e1 : DEnv} {o : O} {xs0 xs : List O} (hl : e[i]? = some (some (.lst xs0))) (h : ev Φ x e = .ok o e1) (h2 : e1[i]? = some (some (.lst xs))) (hs : xs.length < sizeLine) : DL.st Φ (.app i x) e = .nx (e1.set i (some (.lst (xs ++ [o])))) := by
  show runM _ _ _ = _
  rw [runM_ok (a := ()) (e' := e) (by unfold chkLst; rw [hl]), runM_ok h]
  simp only [h2, if_pos hs]
theorem range1_inv {lo hi : Int} {i : Nat} {d : PyData} (h : (range1 lo hi)[i]? = some d) : (i : Int) < hi - lo ∧ d = .int (lo + i) := by
  unfold range1 at h
  rw [List.getElem?_map] at h
  by_cases hi' : i < (hi - lo).toNat
  · rw [List.getElem?_range hi'] at h
    simp only [Option.map_some, Option.some.injEq] at h
    exact ⟨by omega, h.symm⟩
  · rw [List.getElem?_eq_none (by simpa using hi')] at h
    cases h
theorem b_pow (i j : Int) (h : 0 ≤ j ∧ j ≤ 1000000 ∧ i.natAbs < 2 ^ 64) : binD .Pow (.int i) (.int j) = some (.val (.int (i ^ j.toNat))) := if_pos h
theorem rd_lm (os : List O) (e : DEnv) : rd (.o (.lst os)) e = M.of ((valsOf os).map PyData.list) e := rfl
end DL
namespace K01
open PySem PySem.Spec PyProof.Rows L2 DL
def fuelAt (i : Nat) (e : DEnv) : Nat := match e[i]? with
  | some (some (.val (.int n))) => n.natAbs + 2
  | _ => 0
def topS (i : Nat) : Stmt := PySem.Challenge.pw_linesalike_k01_ratios.main.body.getD i (.Pass ⟨0, 0, 0, 0⟩)
def d_divisor_b : List S := [.par [0, 1] [(.blt .abs [(.var 0)]), (.blt .abs [(.var 1)])],
  .whil (fuelAt 1) (.v (.cmp .Gt (.var 1) (.int 0))) [.par [0, 1] [(.var 1), (.op .Mod (.var 0) (.var 1))]],
  .ret (.var 0)]
@[reducible] def d_divisor : DefI := ⟨"divisor", topS 8, ["first", "second"], ["first", "second"], ⟨0, 2, 2, d_divisor_b⟩⟩
def d_ratio_b : List S := [.cond (.v (.cmp .Eq (.var 1) (.int 0))) [.rais 0] [],
  .asgN 2 (.call 0 [] [(.var 0), (.var 1)]),
  .cond (.v (.cmp .Lt (.var 1) (.int 0))) [.asgN 2 (.neg (.var 2))] [],
  .ret (.tup [(.op .FloorDiv (.var 0) (.var 2)), (.op .FloorDiv (.var 1) (.var 2))])]
@[reducible] def d_ratio : DefI := ⟨"ratio", topS 9, ["top", "below", "common"], ["top", "below"], ⟨0, 2, 3, d_ratio_b⟩⟩
def d_is_ratio_b : List S := [.ret (.and (.cmp .Eq (.blt .len [(.var 0)]) (.int 2)) (.and (.cmp .GtE (.idx (.var 0) (.int 1)) (.int 1)) (.cmp .Eq (.call 0 [] [(.idx (.var 0) (.int 0)), (.idx (.var 0) (.int 1))]) (.int 1))))]
@[reducible] def d_is_ratio : DefI := ⟨"is_ratio", topS 10, ["value"], ["value"], ⟨0, 1, 1, d_is_ratio_b⟩⟩
def d_added_b : List S := [.ret (.call 1 [] [(.op .Add (.op .Mult (.idx (.var 0) (.int 0)) (.idx (.var 1) (.int 1))) (.op .Mult (.idx (.var 1) (.int 0)) (.idx (.var 0) (.int 1)))), (.op .Mult (.idx (.var 0) (.int 1)) (.idx (.var 1) (.int 1)))])]
@[reducible] def d_added : DefI := ⟨"added", topS 11, ["first", "second"], ["first", "second"], ⟨0, 2, 2, d_added_b⟩⟩
def d_negative_b : List S := [.ret (.tup [(.neg (.idx (.var 0) (.int 0))), (.idx (.var 0) (.int 1))])]
@[reducible] def d_negative : DefI := ⟨"negative", topS 12, ["value"], ["value"], ⟨0, 1, 1, d_negative_b⟩⟩
def d_times_b : List S := [.ret (.call 1 [] [(.op .Mult (.idx (.var 0) (.int 0)) (.idx (.var 1) (.int 0))), (.op .Mult (.idx (.var 0) (.int 1)) (.idx (.var 1) (.int 1)))])]
@[reducible] def d_times : DefI := ⟨"times", topS 13, ["first", "second"], ["first", "second"], ⟨0, 2, 2, d_times_b⟩⟩
def d_over_b : List S := [.ret (.call 1 [] [(.op .Mult (.idx (.var 0) (.int 0)) (.idx (.var 1) (.int 1))), (.op .Mult (.idx (.var 0) (.int 1)) (.idx (.var 1) (.int 0)))])]
@[reducible] def d_over : DefI := ⟨"over", topS 14, ["first", "second"], ["first", "second"], ⟨0, 2, 2, d_over_b⟩⟩
def d_less_b : List S := [.ret (.cmp .Lt (.op .Mult (.idx (.var 0) (.int 0)) (.idx (.var 1) (.int 1))) (.op .Mult (.idx (.var 1) (.int 0)) (.idx (.var 0) (.int 1))))]
@[reducible] def d_less : DefI := ⟨"less", topS 15, ["first", "second"], ["first", "second"], ⟨0, 2, 2, d_less_b⟩⟩
def d_greatest_b : List S := [.asgN 1 (.idx (.var 0) (.int 0)),
  .loop (.name 2) (.it (.cut (.var 0) (some (.int 1)) none)) [.asgN 1 (.ite (.v (.call 7 [] [(.var 1), (.var 2)])) (.var 2) (.var 1))],
  .ret (.var 1)]
@[reducible] def d_greatest : DefI := ⟨"greatest", topS 16, ["values", "best", "value"], ["values"], ⟨0, 1, 3, d_greatest_b⟩⟩
def d_summed_b : List S := [.asgN 1 (.tup [(.int 0), (.int 1)]),
  .loop (.name 2) (.it (.var 0)) [.asgN 1 (.call 3 [] [(.var 1), (.var 2)])],
  .ret (.var 1)]
@[reducible] def d_summed : DefI := ⟨"summed", topS 17, ["values", "total", "value"], ["values"], ⟨0, 1, 3, d_summed_b⟩⟩
def d_weighed_b : List S := [.ret (.call 9 [] [(.comp (.call 5 [] [(.var 2), (.var 3)]) [2, 3] (.tup [(.name 2), (.name 3)]) (.zip [(.var 0), (.var 1)]) none)])]
@[reducible] def d_weighed : DefI := ⟨"weighed", topS 18, ["values", "others", "value", "other"], ["values", "others"], ⟨0, 2, 4, d_weighed_b⟩⟩
def d_ratio_text_b : List S := [.ret (.ite (.v (.cmp .Eq (.idx (.var 0) (.int 1)) (.int 1))) (.blt .str [(.idx (.var 0) (.int 0))]) (.fst [(some (.idx (.var 0) (.int 0)), Str.empty), (none, "/"), (some (.idx (.var 0) (.int 1)), Str.empty)]))]
@[reducible] def d_ratio_text : DefI := ⟨"ratio_text", topS 19, ["value"], ["value"], ⟨0, 1, 1, d_ratio_text_b⟩⟩
def d_law_same_b : List S := [.ret (.cmp .Eq (.blt .repr [(.lst [(.var 0)])]) (.blt .repr [(.lst [(.var 1)])]))]
@[reducible] def d_law_same : DefI := ⟨"_law_same", topS 21, ["told", "due"], ["told", "due"], ⟨0, 2, 2, d_law_same_b⟩⟩
def d_law_stream_b : List S := [.asgN 1 (.lst []),
  .loop (.name 2) (.it (.cut (.var 0) none (some (.int 63)))) [.asgN 3 (.blt .abs [(.blt .int [(.var 2)])]),
  .cond (.v (.cmp .GtE (.var 3) (.op .Pow (.int 10) (.int 18)))) [.loop (.name 4) (.rng1 (.int 60)) [.app 1 (.op .Mod (.blt .int [(.var 3)]) (.int 1009)),
  .asgN 3 (.op .FloorDiv (.var 3) (.int 1009)),
  .cond (.v (.cmp .Eq (.var 3) (.int 0))) [.brk] []]] [.asgN 5 (.op .Mod (.blt .int [(.var 3)]) (.int 2147483647)),
  .loop (.name 4) (.rng1 (.int 10)) [.asgN 5 (.op .Mod (.blt .int [(.op .Add (.op .Add (.op .Mult (.var 5) (.int 48271)) (.op .Mult (.int 7) (.var 4))) (.int 11))]) (.int 2147483647)),
  .app 1 (.op .Mod (.op .Mod (.blt .int [(.op .Add (.op .Mult (.var 5) (.int 69621)) (.var 4))]) (.int 2147483629)) (.int 1009))]]],
  .cond (.v (.cmp .Eq (.blt .len [(.var 1)]) (.int 0))) [.app 1 (.int 0)] [],
  .ret (.var 1)]
@[reducible] def d_law_stream : DefI := ⟨"_law_stream", topS 22, ["script", "numbers", "cell", "rest", "k", "stirred"], ["script"], ⟨0, 1, 6, d_law_stream_b⟩⟩
def d_law_next_b : List S := [.setI 0 (.int 1) (.op .Add (.idx (.var 0) (.int 1)) (.int 1)),
  .asgN 2 (.op .FloorDiv (.idx (.var 0) (.int 1)) (.blt .len [(.idx (.var 0) (.int 0))])),
  .ret (.op .Mod (.blt .int [(.op .Add (.op .Add (.idx (.idx (.var 0) (.int 0)) (.op .Mod (.idx (.var 0) (.int 1)) (.blt .len [(.idx (.var 0) (.int 0))]))) (.op .Mult (.var 2) (.int 389))) (.op .Mult (.op .Mult (.idx (.var 0) (.int 1)) (.var 2)) (.int 17)))]) (.var 1))]
@[reducible] def d_law_next : DefI := ⟨"_law_next", topS 23, ["state", "many", "turn"], ["state", "many"], ⟨1, 2, 3, d_law_next_b⟩⟩
def d_law_divisor_b : List S := [.asgN 0 (.blt .max2 [(.var 0), (.op .Sub (.int 0) (.var 0))]),
  .asgN 1 (.blt .max2 [(.var 1), (.op .Sub (.int 0) (.var 1))]),
  .whil (fuelAt 1) (.v (.cmp .Gt (.var 1) (.int 0))) [.par [0, 1] [(.var 1), (.op .Mod (.blt .int [(.var 0)]) (.var 1))]],
  .ret (.var 0)]
@[reducible] def d_law_divisor : DefI := ⟨"_law_divisor", topS 25, ["first", "second"], ["first", "second"], ⟨0, 2, 2, d_law_divisor_b⟩⟩
def d_law_ratio_b : List S := [.asgN 2 (.call 15 [] [(.var 0), (.var 1)]),
  .cond (.v (.cmp .Lt (.var 1) (.int 0))) [.asgN 2 (.op .Sub (.int 0) (.var 2))] [],
  .ret (.tup [(.op .FloorDiv (.var 0) (.var 2)), (.op .FloorDiv (.var 1) (.var 2))])]
@[reducible] def d_law_ratio : DefI := ⟨"_law_ratio", topS 26, ["top", "below", "common"], ["top", "below"], ⟨0, 2, 3, d_law_ratio_b⟩⟩
def d_law_plus_b : List S := [.ret (.call 16 [] [(.op .Add (.op .Mult (.idx (.var 0) (.int 0)) (.idx (.var 1) (.int 1))) (.op .Mult (.idx (.var 1) (.int 0)) (.idx (.var 0) (.int 1)))), (.op .Mult (.idx (.var 0) (.int 1)) (.idx (.var 1) (.int 1)))])]
@[reducible] def d_law_plus : DefI := ⟨"_law_plus", topS 27, ["first", "second"], ["first", "second"], ⟨0, 2, 2, d_law_plus_b⟩⟩
def d_law_sum_b : List S := [.asgN 1 (.tup [(.int 0), (.int 1)]),
  .loop (.name 2) (.it (.var 0)) [.asgN 1 (.call 17 [] [(.var 1), (.var 2)])],
  .ret (.var 1)]
@[reducible] def d_law_sum : DefI := ⟨"_law_sum", topS 28, ["values", "total", "value"], ["values"], ⟨0, 1, 3, d_law_sum_b⟩⟩
def d_law_less_b : List S := [.ret (.cmp .Lt (.op .Mult (.idx (.var 0) (.int 0)) (.idx (.var 1) (.int 1))) (.op .Mult (.idx (.var 1) (.int 0)) (.idx (.var 0) (.int 1))))]
@[reducible] def d_law_less : DefI := ⟨"_law_less", topS 29, ["first", "second"], ["first", "second"], ⟨0, 2, 2, d_law_less_b⟩⟩
def d_law_drawn_b : List S := [.asgN 1 (.op .Sub (.call 14 [0] [(.int 400)]) (.int 200)),
  .ret (.call 16 [] [(.op .Mult (.var 1) (.idx (.lst [(.int 1), (.op .Pow (.int 10) (.int 6))]) (.blt .int [(.cmp .Eq (.call 14 [0] [(.int 5)]) (.int 0))]))), (.op .Add (.int 1) (.call 14 [0] [(.int 60)]))])]
@[reducible] def d_law_drawn : DefI := ⟨"_law_drawn", topS 31, ["state", "top"], ["state"], ⟨1, 1, 2, d_law_drawn_b⟩⟩
def d_law_b : List S := [.asgN 1 (.lst [(.call 13 [] [(.var 0)]), (.int 0)]),
  .loop (.name 2) (.rng1 (.int 12)) [.asgN 3 (.op .Sub (.call 14 [1] [(.int 900)]) (.int 450)),
  .asgN 4 (.idx (.lst [(.op .Add (.int 1) (.call 14 [1] [(.int 80)])), (.op .Sub (.op .Sub (.int 0) (.int 1)) (.call 14 [1] [(.int 80)]))]) (.call 14 [1] [(.int 2)])),
  .asgN 5 (.call 20 [1] []),
  .asgN 6 (.call 20 [1] []),
  .asgN 7 (.comp (.call 20 [1] []) [12] (.name 12) (.rng1 (.op .Add (.int 1) (.call 14 [1] [(.int 5)]))) none),
  .asgN 8 (.comp (.call 20 [1] []) [14] (.name 14) (.it (.var 7)) none),
  .cond (.no (.v (.call 12 [] [(.lst [(.call 1 [] [(.var 3), (.var 4)]), (.call 2 [] [(.var 5)]), (.call 2 [] [(.tup [(.op .Mult (.int 2) (.idx (.var 5) (.int 0))), (.op .Mult (.int 2) (.idx (.var 5) (.int 1)))])]), (.call 2 [] [(.tup [(.int 1), (.int 0)])]), (.call 2 [] [(.tup [(.int 3), (.neg (.int 1))])])]), (.lst [(.call 16 [] [(.var 3), (.var 4)]), (.bl true), (.bl false), (.bl false), (.bl false)])]))) [.ret (.bl false)] [],
  .asgN 9 (.lst [(.call 17 [] [(.var 5), (.var 6)]), (.tup [(.op .Sub (.int 0) (.idx (.var 5) (.int 0))), (.idx (.var 5) (.int 1))]), (.call 16 [] [(.op .Mult (.idx (.var 5) (.int 0)) (.idx (.var 6) (.int 0))), (.op .Mult (.idx (.var 5) (.int 1)) (.idx (.var 6) (.int 1)))]), (.call 19 [] [(.var 5), (.var 6)])]),
  .cond (.no (.v (.call 12 [] [(.lst [(.call 3 [] [(.var 5), (.var 6)]), (.call 4 [] [(.var 5)]), (.call 5 [] [(.var 5), (.var 6)]), (.call 7 [] [(.var 5), (.var 6)])]), (.var 9)]))) [.ret (.bl false)] [],
  .cond (.and (.v (.cmp .NotEq (.idx (.var 6) (.int 0)) (.int 0))) (.no (.v (.call 12 [] [(.call 6 [] [(.var 5), (.var 6)]), (.call 16 [] [(.op .Mult (.idx (.var 5) (.int 0)) (.idx (.var 6) (.int 1))), (.op .Mult (.idx (.var 5) (.int 1)) (.idx (.var 6) (.int 0)))])])))) [.ret (.bl false)] [],
  .asgN 10 (.idx (.var 7) (.int 0)),
  .asgN 11 (.tup [(.int 0), (.int 1)]),
  .loop (.name 12) (.rng1 (.blt .len [(.var 7)])) [.asgN 10 (.idx (.lst [(.var 10), (.idx (.var 7) (.var 12))]) (.blt .int [(.call 19 [] [(.var 10), (.idx (.var 7) (.var 12))])])),
  .asgN 11 (.call 17 [] [(.var 11), (.call 16 [] [(.op .Mult (.idx (.idx (.var 7) (.var 12)) (.int 0)) (.idx (.idx (.var 8) (.var 12)) (.int 0))), (.op .Mult (.idx (.idx (.var 7) (.var 12)) (.int 1)) (.idx (.idx (.var 8) (.var 12)) (.int 1)))])])],
  .cond (.no (.v (.call 12 [] [(.lst [(.call 8 [] [(.var 7)]), (.call 9 [] [(.var 7)]), (.call 10 [] [(.var 7), (.var 8)])]), (.lst [(.var 10), (.call 18 [] [(.var 7)]), (.var 11)])]))) [.ret (.bl false)] [],
  .asgN 13 (.blt .str [(.idx (.var 5) (.int 0))]),
  .cond (.v (.cmp .NotEq (.idx (.var 5) (.int 1)) (.int 1))) [.asgN 13 (.op .Add (.op .Add (.var 13) (.str "/")) (.blt .str [(.idx (.var 5) (.int 1))]))] [],
  .cond (.no (.v (.call 12 [] [(.call 11 [] [(.var 5)]), (.var 13)]))) [.ret (.bl false)] []],
  .ret (.bl true)]
@[reducible] def d_law : DefI := ⟨"law", topS 32, ["script", "state", "turn", "top", "below", "one", "other", "rows", "more", "due", "best", "total", "k", "text", "row"], ["script"], ⟨0, 1, 15, d_law_b⟩⟩
def defs : List DefI := [d_divisor, d_ratio, d_is_ratio, d_added, d_negative, d_times, d_over, d_less, d_greatest, d_summed, d_weighed, d_ratio_text, d_law_same, d_law_stream, d_law_next, d_law_divisor, d_law_ratio, d_law_plus, d_law_sum, d_law_less, d_law_drawn, d_law]
def tabs : Tabs0 := ⟨["NotAllowed"], ["abs", "int", "len", "max", "range", "repr", "str", "zip"], []⟩
def defs0 : List DefI := [d_divisor, d_ratio, d_is_ratio, d_added, d_negative, d_times, d_over, d_less, d_greatest, d_summed, d_weighed, d_ratio_text, d_law_same, d_law_stream, d_law_next, d_law_divisor, d_law_ratio, d_law_plus, d_law_sum, d_law_less, d_law_drawn]
theorem chk0 : chkAll tabs defs0 [] = true := by decide +kernel
theorem chk1 : chkD tabs (defs0.map fun d => (d.nm, d.df.nIn)) d_law = true := by decide +kernel
abbrev φ : FnSem := d_law.df.sem (semTab defs0 [])
theorem all_mk {l : PySem.W.OpenLaw} {w : World} {K : PySem.W.Frag} {h : Heap} {mg : Str → Option Value} {fa : Addr} (X : K.In h) (G : h.Ns mainGlobals mg) (hfa : mg "law" = some (.ref fa))
    {f0 : Addr} {od0 an0 : Option Addr} {sl0 : Array (Option Value)} {oc0 kV0 dc0 pm0 cd0 ct0 : Value}
    {f1 : Addr} {od1 an1 : Option Addr} {sl1 : Array (Option Value)} {oc1 kV1 dc1 pm1 cd1 ct1 : Value}
    {f2 : Addr} {od2 an2 : Option Addr} {sl2 : Array (Option Value)} {oc2 kV2 dc2 pm2 cd2 ct2 : Value}
    {f3 : Addr} {od3 an3 : Option Addr} {sl3 : Array (Option Value)} {oc3 kV3 dc3 pm3 cd3 ct3 : Value}
    {f4 : Addr} {od4 an4 : Option Addr} {sl4 : Array (Option Value)} {oc4 kV4 dc4 pm4 cd4 ct4 : Value}
    {f5 : Addr} {od5 an5 : Option Addr} {sl5 : Array (Option Value)} {oc5 kV5 dc5 pm5 cd5 ct5 : Value}
    {f6 : Addr} {od6 an6 : Option Addr} {sl6 : Array (Option Value)} {oc6 kV6 dc6 pm6 cd6 ct6 : Value}
    {f7 : Addr} {od7 an7 : Option Addr} {sl7 : Array (Option Value)} {oc7 kV7 dc7 pm7 cd7 ct7 : Value}
    {f8 : Addr} {od8 an8 : Option Addr} {sl8 : Array (Option Value)} {oc8 kV8 dc8 pm8 cd8 ct8 : Value}
    {f9 : Addr} {od9 an9 : Option Addr} {sl9 : Array (Option Value)} {oc9 kV9 dc9 pm9 cd9 ct9 : Value}
    {f10 : Addr} {od10 an10 : Option Addr} {sl10 : Array (Option Value)} {oc10 kV10 dc10 pm10 cd10 ct10 : Value}
    {f11 : Addr} {od11 an11 : Option Addr} {sl11 : Array (Option Value)} {oc11 kV11 dc11 pm11 cd11 ct11 : Value}
    {f12 : Addr} {od12 an12 : Option Addr} {sl12 : Array (Option Value)} {oc12 kV12 dc12 pm12 cd12 ct12 : Value}
    {f13 : Addr} {od13 an13 : Option Addr} {sl13 : Array (Option Value)} {oc13 kV13 dc13 pm13 cd13 ct13 : Value}
    {f14 : Addr} {od14 an14 : Option Addr} {sl14 : Array (Option Value)} {oc14 kV14 dc14 pm14 cd14 ct14 : Value}
    {f15 : Addr} {od15 an15 : Option Addr} {sl15 : Array (Option Value)} {oc15 kV15 dc15 pm15 cd15 ct15 : Value}
    {f16 : Addr} {od16 an16 : Option Addr} {sl16 : Array (Option Value)} {oc16 kV16 dc16 pm16 cd16 ct16 : Value}
    {f17 : Addr} {od17 an17 : Option Addr} {sl17 : Array (Option Value)} {oc17 kV17 dc17 pm17 cd17 ct17 : Value}
    {f18 : Addr} {od18 an18 : Option Addr} {sl18 : Array (Option Value)} {oc18 kV18 dc18 pm18 cd18 ct18 : Value}
    {f19 : Addr} {od19 an19 : Option Addr} {sl19 : Array (Option Value)} {oc19 kV19 dc19 pm19 cd19 ct19 : Value}
    {f20 : Addr} {od20 an20 : Option Addr} {sl20 : Array (Option Value)} {oc20 kV20 dc20 pm20 cd20 ct20 : Value}
    {f21 : Addr} {od21 an21 : Option Addr} {sl21 : Array (Option Value)} {oc21 kV21 dc21 pm21 cd21 ct21 : Value}
    {x0 : Addr}
    (a0 : PySem.W.nsIn K mainGlobals "divisor" = some (some (.ref f0))) (l0 : K.lookup f0 = some ⟨oc0, od0, .func (PySem.W.fnOf "divisor" "divisor" (defArgs (topS 8)) (defBody (topS 8)) (defScope (topS 8)) .none kV0 dc0 pm0 an0 cd0 ct0), sl0⟩) (c0 : PySem.W.codeIn K cd0 "divisor" = true) (k0 : PySem.W.keepIn K (.ref f0) = true)
    (a1 : PySem.W.nsIn K mainGlobals "ratio" = some (some (.ref f1))) (l1 : K.lookup f1 = some ⟨oc1, od1, .func (PySem.W.fnOf "ratio" "ratio" (defArgs (topS 9)) (defBody (topS 9)) (defScope (topS 9)) .none kV1 dc1 pm1 an1 cd1 ct1), sl1⟩) (c1 : PySem.W.codeIn K cd1 "ratio" = true) (k1 : PySem.W.keepIn K (.ref f1) = true)
    (a2 : PySem.W.nsIn K mainGlobals "is_ratio" = some (some (.ref f2))) (l2 : K.lookup f2 = some ⟨oc2, od2, .func (PySem.W.fnOf "is_ratio" "is_ratio" (defArgs (topS 10)) (defBody (topS 10)) (defScope (topS 10)) .none kV2 dc2 pm2 an2 cd2 ct2), sl2⟩) (c2 : PySem.W.codeIn K cd2 "is_ratio" = true) (k2 : PySem.W.keepIn K (.ref f2) = true)
    (a3 : PySem.W.nsIn K mainGlobals "added" = some (some (.ref f3))) (l3 : K.lookup f3 = some ⟨oc3, od3, .func (PySem.W.fnOf "added" "added" (defArgs (topS 11)) (defBody (topS 11)) (defScope (topS 11)) .none kV3 dc3 pm3 an3 cd3 ct3), sl3⟩) (c3 : PySem.W.codeIn K cd3 "added" = true) (k3 : PySem.W.keepIn K (.ref f3) = true)
    (a4 : PySem.W.nsIn K mainGlobals "negative" = some (some (.ref f4))) (l4 : K.lookup f4 = some ⟨oc4, od4, .func (PySem.W.fnOf "negative" "negative" (defArgs (topS 12)) (defBody (topS 12)) (defScope (topS 12)) .none kV4 dc4 pm4 an4 cd4 ct4), sl4⟩) (c4 : PySem.W.codeIn K cd4 "negative" = true) (k4 : PySem.W.keepIn K (.ref f4) = true)
    (a5 : PySem.W.nsIn K mainGlobals "times" = some (some (.ref f5))) (l5 : K.lookup f5 = some ⟨oc5, od5, .func (PySem.W.fnOf "times" "times" (defArgs (topS 13)) (defBody (topS 13)) (defScope (topS 13)) .none kV5 dc5 pm5 an5 cd5 ct5), sl5⟩) (c5 : PySem.W.codeIn K cd5 "times" = true) (k5 : PySem.W.keepIn K (.ref f5) = true)
    (a6 : PySem.W.nsIn K mainGlobals "over" = some (some (.ref f6))) (l6 : K.lookup f6 = some ⟨oc6, od6, .func (PySem.W.fnOf "over" "over" (defArgs (topS 14)) (defBody (topS 14)) (defScope (topS 14)) .none kV6 dc6 pm6 an6 cd6 ct6), sl6⟩) (c6 : PySem.W.codeIn K cd6 "over" = true) (k6 : PySem.W.keepIn K (.ref f6) = true)
    (a7 : PySem.W.nsIn K mainGlobals "less" = some (some (.ref f7))) (l7 : K.lookup f7 = some ⟨oc7, od7, .func (PySem.W.fnOf "less" "less" (defArgs (topS 15)) (defBody (topS 15)) (defScope (topS 15)) .none kV7 dc7 pm7 an7 cd7 ct7), sl7⟩) (c7 : PySem.W.codeIn K cd7 "less" = true) (k7 : PySem.W.keepIn K (.ref f7) = true)
    (a8 : PySem.W.nsIn K mainGlobals "greatest" = some (some (.ref f8))) (l8 : K.lookup f8 = some ⟨oc8, od8, .func (PySem.W.fnOf "greatest" "greatest" (defArgs (topS 16)) (defBody (topS 16)) (defScope (topS 16)) .none kV8 dc8 pm8 an8 cd8 ct8), sl8⟩) (c8 : PySem.W.codeIn K cd8 "greatest" = true) (k8 : PySem.W.keepIn K (.ref f8) = true)
    (a9 : PySem.W.nsIn K mainGlobals "summed" = some (some (.ref f9))) (l9 : K.lookup f9 = some ⟨oc9, od9, .func (PySem.W.fnOf "summed" "summed" (defArgs (topS 17)) (defBody (topS 17)) (defScope (topS 17)) .none kV9 dc9 pm9 an9 cd9 ct9), sl9⟩) (c9 : PySem.W.codeIn K cd9 "summed" = true) (k9 : PySem.W.keepIn K (.ref f9) = true)
    (a10 : PySem.W.nsIn K mainGlobals "weighed" = some (some (.ref f10))) (l10 : K.lookup f10 = some ⟨oc10, od10, .func (PySem.W.fnOf "weighed" "weighed" (defArgs (topS 18)) (defBody (topS 18)) (defScope (topS 18)) .none kV10 dc10 pm10 an10 cd10 ct10), sl10⟩) (c10 : PySem.W.codeIn K cd10 "weighed" = true) (k10 : PySem.W.keepIn K (.ref f10) = true)
    (a11 : PySem.W.nsIn K mainGlobals "ratio_text" = some (some (.ref f11))) (l11 : K.lookup f11 = some ⟨oc11, od11, .func (PySem.W.fnOf "ratio_text" "ratio_text" (defArgs (topS 19)) (defBody (topS 19)) (defScope (topS 19)) .none kV11 dc11 pm11 an11 cd11 ct11), sl11⟩) (c11 : PySem.W.codeIn K cd11 "ratio_text" = true) (k11 : PySem.W.keepIn K (.ref f11) = true)
    (a12 : PySem.W.nsIn K mainGlobals "_law_same" = some (some (.ref f12))) (l12 : K.lookup f12 = some ⟨oc12, od12, .func (PySem.W.fnOf "_law_same" "_law_same" (defArgs (topS 21)) (defBody (topS 21)) (defScope (topS 21)) .none kV12 dc12 pm12 an12 cd12 ct12), sl12⟩) (c12 : PySem.W.codeIn K cd12 "_law_same" = true) (k12 : PySem.W.keepIn K (.ref f12) = true)
    (a13 : PySem.W.nsIn K mainGlobals "_law_stream" = some (some (.ref f13))) (l13 : K.lookup f13 = some ⟨oc13, od13, .func (PySem.W.fnOf "_law_stream" "_law_stream" (defArgs (topS 22)) (defBody (topS 22)) (defScope (topS 22)) .none kV13 dc13 pm13 an13 cd13 ct13), sl13⟩) (c13 : PySem.W.codeIn K cd13 "_law_stream" = true) (k13 : PySem.W.keepIn K (.ref f13) = true)
    (a14 : PySem.W.nsIn K mainGlobals "_law_next" = some (some (.ref f14))) (l14 : K.lookup f14 = some ⟨oc14, od14, .func (PySem.W.fnOf "_law_next" "_law_next" (defArgs (topS 23)) (defBody (topS 23)) (defScope (topS 23)) .none kV14 dc14 pm14 an14 cd14 ct14), sl14⟩) (c14 : PySem.W.codeIn K cd14 "_law_next" = true) (k14 : PySem.W.keepIn K (.ref f14) = true)
    (a15 : PySem.W.nsIn K mainGlobals "_law_divisor" = some (some (.ref f15))) (l15 : K.lookup f15 = some ⟨oc15, od15, .func (PySem.W.fnOf "_law_divisor" "_law_divisor" (defArgs (topS 25)) (defBody (topS 25)) (defScope (topS 25)) .none kV15 dc15 pm15 an15 cd15 ct15), sl15⟩) (c15 : PySem.W.codeIn K cd15 "_law_divisor" = true) (k15 : PySem.W.keepIn K (.ref f15) = true)
    (a16 : PySem.W.nsIn K mainGlobals "_law_ratio" = some (some (.ref f16))) (l16 : K.lookup f16 = some ⟨oc16, od16, .func (PySem.W.fnOf "_law_ratio" "_law_ratio" (defArgs (topS 26)) (defBody (topS 26)) (defScope (topS 26)) .none kV16 dc16 pm16 an16 cd16 ct16), sl16⟩) (c16 : PySem.W.codeIn K cd16 "_law_ratio" = true) (k16 : PySem.W.keepIn K (.ref f16) = true)
    (a17 : PySem.W.nsIn K mainGlobals "_law_plus" = some (some (.ref f17))) (l17 : K.lookup f17 = some ⟨oc17, od17, .func (PySem.W.fnOf "_law_plus" "_law_plus" (defArgs (topS 27)) (defBody (topS 27)) (defScope (topS 27)) .none kV17 dc17 pm17 an17 cd17 ct17), sl17⟩) (c17 : PySem.W.codeIn K cd17 "_law_plus" = true) (k17 : PySem.W.keepIn K (.ref f17) = true)
    (a18 : PySem.W.nsIn K mainGlobals "_law_sum" = some (some (.ref f18))) (l18 : K.lookup f18 = some ⟨oc18, od18, .func (PySem.W.fnOf "_law_sum" "_law_sum" (defArgs (topS 28)) (defBody (topS 28)) (defScope (topS 28)) .none kV18 dc18 pm18 an18 cd18 ct18), sl18⟩) (c18 : PySem.W.codeIn K cd18 "_law_sum" = true) (k18 : PySem.W.keepIn K (.ref f18) = true)
    (a19 : PySem.W.nsIn K mainGlobals "_law_less" = some (some (.ref f19))) (l19 : K.lookup f19 = some ⟨oc19, od19, .func (PySem.W.fnOf "_law_less" "_law_less" (defArgs (topS 29)) (defBody (topS 29)) (defScope (topS 29)) .none kV19 dc19 pm19 an19 cd19 ct19), sl19⟩) (c19 : PySem.W.codeIn K cd19 "_law_less" = true) (k19 : PySem.W.keepIn K (.ref f19) = true)
    (a20 : PySem.W.nsIn K mainGlobals "_law_drawn" = some (some (.ref f20))) (l20 : K.lookup f20 = some ⟨oc20, od20, .func (PySem.W.fnOf "_law_drawn" "_law_drawn" (defArgs (topS 31)) (defBody (topS 31)) (defScope (topS 31)) .none kV20 dc20 pm20 an20 cd20 ct20), sl20⟩) (c20 : PySem.W.codeIn K cd20 "_law_drawn" = true) (k20 : PySem.W.keepIn K (.ref f20) = true)
    (a21 : PySem.W.nsIn K mainGlobals "law" = some (some (.ref f21))) (l21 : K.lookup f21 = some ⟨oc21, od21, .func (PySem.W.fnOf "law" "law" (defArgs (topS 32)) (defBody (topS 32)) (defScope (topS 32)) .none kV21 dc21 pm21 an21 cd21 ct21), sl21⟩) (c21 : PySem.W.codeIn K cd21 "law" = true) (k21 : PySem.W.keepIn K (.ref f21) = true)
    (xa0 : PySem.W.nsIn K mainGlobals "NotAllowed" = some (some (.ref x0))) (xe0 : PySem.W.excIn K x0 veB "ValueError.__new__" = true) (xk0 : PySem.W.keepIn K (.ref x0) = true) (xs0 : PySem.W.subIn K (.ref x0) (.type "BaseException") = some true) (xt0 : PySem.W.typeIn K (.ref x0) = some (.type "type"))
    (z0 : PySem.W.nsIn K mainGlobals "abs" = some none)
    (z1 : PySem.W.nsIn K mainGlobals "int" = some none)
    (z2 : PySem.W.nsIn K mainGlobals "len" = some none)
    (z3 : PySem.W.nsIn K mainGlobals "max" = some none)
    (z4 : PySem.W.nsIn K mainGlobals "range" = some none)
    (z5 : PySem.W.nsIn K mainGlobals "repr" = some none)
    (z6 : PySem.W.nsIn K mainGlobals "str" = some none)
    (z7 : PySem.W.nsIn K mainGlobals "zip" = some none)
    : ∃ (fd : FuncData) (xa : List Addr), (∀ (s : Shared) (v : Value), BindsTo s fd ⟨[v], []⟩ [("script", v)]) ∧ ∀ base : Heap, K.In base → base.Ns mainGlobals mg → FnG l.prog w K mg base 22 fa fd ["script"] (spD [] [] K xa 0 φ) := by
  have e := hfa.symm.trans (PySem.W.mg_of X G a21)
  cases e
  have F0 := fun_mk (st := (topS 8)) l0 c0 k0
  have D0 : DefAt K mg d_divisor := mk_at X G a0 F0 (F0.binds (ps := ["first", "second"]) fun _ _ _ _ _ _ us hl => match us, hl with | [_, _], _ => rfl)
  have F1 := fun_mk (st := (topS 9)) l1 c1 k1
  have D1 : DefAt K mg d_ratio := mk_at X G a1 F1 (F1.binds (ps := ["top", "below"]) fun _ _ _ _ _ _ us hl => match us, hl with | [_, _], _ => rfl)
  have F2 := fun_mk (st := (topS 10)) l2 c2 k2
  have D2 : DefAt K mg d_is_ratio := mk_at X G a2 F2 (F2.binds (ps := ["value"]) fun _ _ _ _ _ _ us hl => match us, hl with | [_], _ => rfl)
  have F3 := fun_mk (st := (topS 11)) l3 c3 k3
  have D3 : DefAt K mg d_added := mk_at X G a3 F3 (F3.binds (ps := ["first", "second"]) fun _ _ _ _ _ _ us hl => match us, hl with | [_, _], _ => rfl)
  have F4 := fun_mk (st := (topS 12)) l4 c4 k4
  have D4 : DefAt K mg d_negative := mk_at X G a4 F4 (F4.binds (ps := ["value"]) fun _ _ _ _ _ _ us hl => match us, hl with | [_], _ => rfl)
  have F5 := fun_mk (st := (topS 13)) l5 c5 k5
  have D5 : DefAt K mg d_times := mk_at X G a5 F5 (F5.binds (ps := ["first", "second"]) fun _ _ _ _ _ _ us hl => match us, hl with | [_, _], _ => rfl)
  have F6 := fun_mk (st := (topS 14)) l6 c6 k6
  have D6 : DefAt K mg d_over := mk_at X G a6 F6 (F6.binds (ps := ["first", "second"]) fun _ _ _ _ _ _ us hl => match us, hl with | [_, _], _ => rfl)
  have F7 := fun_mk (st := (topS 15)) l7 c7 k7
  have D7 : DefAt K mg d_less := mk_at X G a7 F7 (F7.binds (ps := ["first", "second"]) fun _ _ _ _ _ _ us hl => match us, hl with | [_, _], _ => rfl)
  have F8 := fun_mk (st := (topS 16)) l8 c8 k8
  have D8 : DefAt K mg d_greatest := mk_at X G a8 F8 (F8.binds (ps := ["values"]) fun _ _ _ _ _ _ us hl => match us, hl with | [_], _ => rfl)
  have F9 := fun_mk (st := (topS 17)) l9 c9 k9
  have D9 : DefAt K mg d_summed := mk_at X G a9 F9 (F9.binds (ps := ["values"]) fun _ _ _ _ _ _ us hl => match us, hl with | [_], _ => rfl)
  have F10 := fun_mk (st := (topS 18)) l10 c10 k10
  have D10 : DefAt K mg d_weighed := mk_at X G a10 F10 (F10.binds (ps := ["values", "others"]) fun _ _ _ _ _ _ us hl => match us, hl with | [_, _], _ => rfl)
  have F11 := fun_mk (st := (topS 19)) l11 c11 k11
  have D11 : DefAt K mg d_ratio_text := mk_at X G a11 F11 (F11.binds (ps := ["value"]) fun _ _ _ _ _ _ us hl => match us, hl with | [_], _ => rfl)
  have F12 := fun_mk (st := (topS 21)) l12 c12 k12
  have D12 : DefAt K mg d_law_same := mk_at X G a12 F12 (F12.binds (ps := ["told", "due"]) fun _ _ _ _ _ _ us hl => match us, hl with | [_, _], _ => rfl)
  have F13 := fun_mk (st := (topS 22)) l13 c13 k13
  have D13 : DefAt K mg d_law_stream := mk_at X G a13 F13 (F13.binds (ps := ["script"]) fun _ _ _ _ _ _ us hl => match us, hl with | [_], _ => rfl)
  have F14 := fun_mk (st := (topS 23)) l14 c14 k14
  have D14 : DefAt K mg d_law_next := mk_at X G a14 F14 (F14.binds (ps := ["state", "many"]) fun _ _ _ _ _ _ us hl => match us, hl with | [_, _], _ => rfl)
  have F15 := fun_mk (st := (topS 25)) l15 c15 k15
  have D15 : DefAt K mg d_law_divisor := mk_at X G a15 F15 (F15.binds (ps := ["first", "second"]) fun _ _ _ _ _ _ us hl => match us, hl with | [_, _], _ => rfl)
  have F16 := fun_mk (st := (topS 26)) l16 c16 k16
  have D16 : DefAt K mg d_law_ratio := mk_at X G a16 F16 (F16.binds (ps := ["top", "below"]) fun _ _ _ _ _ _ us hl => match us, hl with | [_, _], _ => rfl)
  have F17 := fun_mk (st := (topS 27)) l17 c17 k17
  have D17 : DefAt K mg d_law_plus := mk_at X G a17 F17 (F17.binds (ps := ["first", "second"]) fun _ _ _ _ _ _ us hl => match us, hl with | [_, _], _ => rfl)
  have F18 := fun_mk (st := (topS 28)) l18 c18 k18
  have D18 : DefAt K mg d_law_sum := mk_at X G a18 F18 (F18.binds (ps := ["values"]) fun _ _ _ _ _ _ us hl => match us, hl with | [_], _ => rfl)
  have F19 := fun_mk (st := (topS 29)) l19 c19 k19
  have D19 : DefAt K mg d_law_less := mk_at X G a19 F19 (F19.binds (ps := ["first", "second"]) fun _ _ _ _ _ _ us hl => match us, hl with | [_, _], _ => rfl)
  have F20 := fun_mk (st := (topS 31)) l20 c20 k20
  have D20 : DefAt K mg d_law_drawn := mk_at X G a20 F20 (F20.binds (ps := ["state"]) fun _ _ _ _ _ _ us hl => match us, hl with | [_], _ => rfl)
  have FL := fun_mk (st := (topS 32)) l21 c21 k21
  have T : TopAt K mg [x0] tabs := top_mk (.cons (ex_mk X G xa0 xe0 xk0 xs0 xt0) .nil) (blt_cons X G z0 (blt_cons X G z1 (blt_cons X G z2 (blt_cons X G z3 (blt_cons X G z4 (blt_cons X G z5 (blt_cons X G z6 (blt_cons X G z7 blt_nil))))))))
  have A : FnsAt K mg defs0 := (fns_cons D0 (fns_cons D1 (fns_cons D2 (fns_cons D3 (fns_cons D4 (fns_cons D5 (fns_cons D6 (fns_cons D7 (fns_cons D8 (fns_cons D9 (fns_cons D10 (fns_cons D11 (fns_cons D12 (fns_cons D13 (fns_cons D14 (fns_cons D15 (fns_cons D16 (fns_cons D17 (fns_cons D18 (fns_cons D19 (fns_cons D20 fns_nil)))))))))))))))))))))
  exact ⟨PySem.W.fnOf "law" "law" (defArgs (topS 32)) (defBody (topS 32)) (defScope (topS 32)) .none kV21 dc21 pm21 an21 cd21 ct21, [x0], fun s v => .of_eq rfl, fun base _ _ => law_fnG (d := d_law) T A chk0 chk1 FL⟩
end K01
namespace K01
open PySem PySem.Spec PyProof.Rows L2 DL
abbrev iO (i : Int) : O := .val (.int i)
abbrev bO (b : Bool) : O := .val (.bool b)
abbrev rO2 (p : Int × Int) : O := .val (.tuple [.int p.1, .int p.2])
abbrev rD (p : Int × Int) : PyData := .tuple [.int p.1, .int p.2]
/-! ### the divisor -/
theorem gcd_step (a b : Nat) : Nat.gcd b (a % b) = Nat.gcd a b := by
  rw [Nat.gcd_comm b, ← Nat.gcd_rec, Nat.gcd_comm]
theorem fmod_nat (a b : Nat) : Int.fmod (a : Int) (b : Int) = ((a % b : Nat) : Int) := by
  rw [Int.fmod_eq_emod_of_nonneg _ (by omega)]; rfl
theorem while_gcd {c : M Bool} {body : DEnv → SR} (hc : ∀ a b : Nat, c [some (iO a), some (iO b)] = .ok (decide (0 < b)) [some (iO a), some (iO b)]) (hb : ∀ a b : Nat, 0 < b → body [some (iO a), some (iO b)] = .nx [some (iO b), some (iO ((a % b : Nat) : Int))]) :
    ∀ (n a b : Nat), b < n → whileD c body n [some (iO a), some (iO b)] = .nx [some (iO (Nat.gcd a b)), some (iO 0)]
  | 0, a, b, h => by omega
  | n + 1, a, b, h => by
    by_cases hz : b = 0
    · subst hz
      rw [wh_false (by rw [hc]; rfl)]
      simp
    · rw [wh_true (by rw [hc, decide_eq_true (Nat.pos_of_ne_zero hz)]) (hb a b (Nat.pos_of_ne_zero hz)), while_gcd hc hb n b (a % b) (by have := Nat.mod_lt a (Nat.pos_of_ne_zero hz); omega), gcd_step]
theorem abs_nat (i : Int) : (if i < 0 then -i else i) = (i.natAbs : Int) := by
  split <;> omega
theorem max_nat (i : Int) : (if -i > i then -i else i) = (i.natAbs : Int) := by
  split <;> omega
theorem max_nat' (i : Int) : (if i < -i then -i else i) = (i.natAbs : Int) := by
  split <;> omega
def s0 : FnSem := d_divisor.df.sem []
theorem fuel_at (a b : Int) : fuelAt 1 [some (iO a), some (iO b)] = b.natAbs + 2 := rfl
theorem r0 (a b : Int) : s0.run [iO a, iO b] = .ok (iO (Int.gcd a b)) [] := by
  refine sem_rt (e := [some (iO (Int.gcd a b)), some (iO 0)]) rfl ?_ rfl
  show sts [] d_divisor_b [some (iO a), some (iO b)] = _
  unfold d_divisor_b
  rw [sts_nx (e1 := [some (iO a.natAbs), some (iO b.natAbs)]) (by simp [sts, DL.st, seqS, runM, ev, evs, evP, evO, evT, evTs, evI, evF, M.bind_def, pure_ok, of_ok', slotV_v, slotP_s, pn_var, pnOf, rd_o, rd_lm, rd_s, rdv_v, rdv_l, rdAll, fz_v, O.fzAll, valsOf, toD, fzAllM, b_add, b_sub, b_mul, b_fdiv, b_mod, b_cat, c_eq, c_ne, c_eqs, c_lt, c_le, c_gt, c_ge, t_bl, it_l, g_l, g_t, k_lenT, k_lenL, k_abs, k_int, k_intb, k_max, k_min, k_str, asgD, asgAll, callM, getAll, setAll, chkSlots, chkLst, asInt, atI_0, atI_1, size2, size1, abs_nat]), sts_nx (e1 := [some (iO (Int.gcd a b)), some (iO 0)]) ?_]
  · simp [sts, DL.st, seqS, runM, ev, evs, evP, evO, evT, evTs, evI, evF, M.bind_def, pure_ok, of_ok', slotV_v, slotP_s, pn_var, pnOf, rd_o, rd_lm, rd_s, rdv_v, rdv_l, rdAll, fz_v, O.fzAll, valsOf, toD, fzAllM, b_add, b_sub, b_mul, b_fdiv, b_mod, b_cat, c_eq, c_ne, c_eqs, c_lt, c_le, c_gt, c_ge, t_bl, it_l, g_l, g_t, k_lenT, k_lenL, k_abs, k_int, k_intb, k_max, k_min, k_str, asgD, asgAll, callM, getAll, setAll, chkSlots, chkLst, asInt, atI_0, atI_1, size2, size1]
  · refine while_gcd (fun a b => ?_) (fun a b h => ?_) _ a.natAbs b.natAbs (by rw [fuel_at]; omega)
    · simp [sts, DL.st, seqS, runM, ev, evs, evP, evO, evT, evTs, evI, evF, M.bind_def, pure_ok, of_ok', slotV_v, slotP_s, pn_var, pnOf, rd_o, rd_lm, rd_s, rdv_v, rdv_l, rdAll, fz_v, O.fzAll, valsOf, toD, fzAllM, b_add, b_sub, b_mul, b_fdiv, b_mod, b_cat, c_eq, c_ne, c_eqs, c_lt, c_le, c_gt, c_ge, t_bl, it_l, g_l, g_t, k_lenT, k_lenL, k_abs, k_int, k_intb, k_max, k_min, k_str, asgD, asgAll, callM, getAll, setAll, chkSlots, chkLst, asInt, atI_0, atI_1, size2, size1]
    · have h1 : b ≠ 0 := by omega
      simp [sts, DL.st, seqS, runM, ev, evs, evP, evO, evT, evTs, evI, evF, M.bind_def, pure_ok, of_ok', slotV_v, slotP_s, pn_var, pnOf, rd_o, rd_lm, rd_s, rdv_v, rdv_l, rdAll, fz_v, O.fzAll, valsOf, toD, fzAllM, b_add, b_sub, b_mul, b_fdiv, b_mod, b_cat, c_eq, c_ne, c_eqs, c_lt, c_le, c_gt, c_ge, t_bl, it_l, g_l, g_t, k_lenT, k_lenL, k_abs, k_int, k_intb, k_max, k_min, k_str, asgD, asgAll, callM, getAll, setAll, chkSlots, chkLst, asInt, atI_0, atI_1, size2, size1, h1, fmod_nat]
def s15 (Φ : List FnSem) : FnSem := d_law_divisor.df.sem Φ
theorem r15 (Φ : List FnSem) (a b : Int) : (s15 Φ).run [iO a, iO b] = .ok (iO (Int.gcd a b)) [] := by
  refine sem_rt (e := [some (iO (Int.gcd a b)), some (iO 0)]) rfl ?_ rfl
  show sts Φ d_law_divisor_b [some (iO a), some (iO b)] = _
  unfold d_law_divisor_b
  rw [sts_nx (e1 := [some (iO a.natAbs), some (iO b)]) (by simp [sts, DL.st, seqS, runM, ev, evs, evP, evO, evT, evTs, evI, evF, M.bind_def, pure_ok, of_ok', slotV_v, slotP_s, pn_var, pnOf, rd_o, rd_lm, rd_s, rdv_v, rdv_l, rdAll, fz_v, O.fzAll, valsOf, toD, fzAllM, b_add, b_sub, b_mul, b_fdiv, b_mod, b_cat, c_eq, c_ne, c_eqs, c_lt, c_le, c_gt, c_ge, t_bl, it_l, g_l, g_t, k_lenT, k_lenL, k_abs, k_int, k_intb, k_max, k_min, k_str, asgD, asgAll, callM, getAll, setAll, chkSlots, chkLst, asInt, atI_0, atI_1, size2, size1, max_nat, max_nat']), sts_nx (e1 := [some (iO a.natAbs), some (iO b.natAbs)]) (by simp [sts, DL.st, seqS, runM, ev, evs, evP, evO, evT, evTs, evI, evF, M.bind_def, pure_ok, of_ok', slotV_v, slotP_s, pn_var, pnOf, rd_o, rd_lm, rd_s, rdv_v, rdv_l, rdAll, fz_v, O.fzAll, valsOf, toD, fzAllM, b_add, b_sub, b_mul, b_fdiv, b_mod, b_cat, c_eq, c_ne, c_eqs, c_lt, c_le, c_gt, c_ge, t_bl, it_l, g_l, g_t, k_lenT, k_lenL, k_abs, k_int, k_intb, k_max, k_min, k_str, asgD, asgAll, callM, getAll, setAll, chkSlots, chkLst, asInt, atI_0, atI_1, size2, size1, max_nat, max_nat']), sts_nx (e1 := [some (iO (Int.gcd a b)), some (iO 0)]) ?_]
  · simp [sts, DL.st, seqS, runM, ev, evs, evP, evO, evT, evTs, evI, evF, M.bind_def, pure_ok, of_ok', slotV_v, slotP_s, pn_var, pnOf, rd_o, rd_lm, rd_s, rdv_v, rdv_l, rdAll, fz_v, O.fzAll, valsOf, toD, fzAllM, b_add, b_sub, b_mul, b_fdiv, b_mod, b_cat, c_eq, c_ne, c_eqs, c_lt, c_le, c_gt, c_ge, t_bl, it_l, g_l, g_t, k_lenT, k_lenL, k_abs, k_int, k_intb, k_max, k_min, k_str, asgD, asgAll, callM, getAll, setAll, chkSlots, chkLst, asInt, atI_0, atI_1, size2, size1]
  · refine while_gcd (fun a b => ?_) (fun a b h => ?_) _ a.natAbs b.natAbs (by rw [fuel_at]; omega)
    · simp [sts, DL.st, seqS, runM, ev, evs, evP, evO, evT, evTs, evI, evF, M.bind_def, pure_ok, of_ok', slotV_v, slotP_s, pn_var, pnOf, rd_o, rd_lm, rd_s, rdv_v, rdv_l, rdAll, fz_v, O.fzAll, valsOf, toD, fzAllM, b_add, b_sub, b_mul, b_fdiv, b_mod, b_cat, c_eq, c_ne, c_eqs, c_lt, c_le, c_gt, c_ge, t_bl, it_l, g_l, g_t, k_lenT, k_lenL, k_abs, k_int, k_intb, k_max, k_min, k_str, asgD, asgAll, callM, getAll, setAll, chkSlots, chkLst, asInt, atI_0, atI_1, size2, size1]
    · have h1 : b ≠ 0 := by omega
      simp [sts, DL.st, seqS, runM, ev, evs, evP, evO, evT, evTs, evI, evF, M.bind_def, pure_ok, of_ok', slotV_v, slotP_s, pn_var, pnOf, rd_o, rd_lm, rd_s, rdv_v, rdv_l, rdAll, fz_v, O.fzAll, valsOf, toD, fzAllM, b_add, b_sub, b_mul, b_fdiv, b_mod, b_cat, c_eq, c_ne, c_eqs, c_lt, c_le, c_gt, c_ge, t_bl, it_l, g_l, g_t, k_lenT, k_lenL, k_abs, k_int, k_intb, k_max, k_min, k_str, asgD, asgAll, callM, getAll, setAll, chkSlots, chkLst, asInt, atI_0, atI_1, size2, size1, h1, fmod_nat]
end K01
namespace K01
open PySem PySem.Spec PyProof.Rows L2 DL
/-! ### the table of sems -/
def P1 : List FnSem := [s0]
def s1 : FnSem := d_ratio.df.sem P1
def P2 : List FnSem := [s0, s1]
def s2 : FnSem := d_is_ratio.df.sem P2
def P3 : List FnSem := [s0, s1, s2]
def s3 : FnSem := d_added.df.sem P3
def P4 : List FnSem := [s0, s1, s2, s3]
def s4 : FnSem := d_negative.df.sem P4
def P5 : List FnSem := [s0, s1, s2, s3, s4]
def s5 : FnSem := d_times.df.sem P5
def P6 : List FnSem := [s0, s1, s2, s3, s4, s5]
def s6 : FnSem := d_over.df.sem P6
def P7 : List FnSem := [s0, s1, s2, s3, s4, s5, s6]
def s7 : FnSem := d_less.df.sem P7
def P8 : List FnSem := [s0, s1, s2, s3, s4, s5, s6, s7]
def s8 : FnSem := d_greatest.df.sem P8
def P9 : List FnSem := [s0, s1, s2, s3, s4, s5, s6, s7, s8]
def s9 : FnSem := d_summed.df.sem P9
def P10 : List FnSem := [s0, s1, s2, s3, s4, s5, s6, s7, s8, s9]
def s10 : FnSem := d_weighed.df.sem P10
def P11 : List FnSem := [s0, s1, s2, s3, s4, s5, s6, s7, s8, s9, s10]
def s11 : FnSem := d_ratio_text.df.sem P11
def P12 : List FnSem := [s0, s1, s2, s3, s4, s5, s6, s7, s8, s9, s10, s11]
def s12 : FnSem := d_law_same.df.sem P12
def P13 : List FnSem := [s0, s1, s2, s3, s4, s5, s6, s7, s8, s9, s10, s11, s12]
def s13 : FnSem := d_law_stream.df.sem P13
def P14 : List FnSem := [s0, s1, s2, s3, s4, s5, s6, s7, s8, s9, s10, s11, s12, s13]
def s14 : FnSem := d_law_next.df.sem P14
def P15 : List FnSem := [s0, s1, s2, s3, s4, s5, s6, s7, s8, s9, s10, s11, s12, s13, s14]
abbrev s15' : FnSem := s15 P15
def P16 : List FnSem := [s0, s1, s2, s3, s4, s5, s6, s7, s8, s9, s10, s11, s12, s13, s14, s15']
def s16 : FnSem := d_law_ratio.df.sem P16
def P17 : List FnSem := [s0, s1, s2, s3, s4, s5, s6, s7, s8, s9, s10, s11, s12, s13, s14, s15', s16]
def s17 : FnSem := d_law_plus.df.sem P17
def P18 : List FnSem := [s0, s1, s2, s3, s4, s5, s6, s7, s8, s9, s10, s11, s12, s13, s14, s15', s16, s17]
def s18 : FnSem := d_law_sum.df.sem P18
def P19 : List FnSem := [s0, s1, s2, s3, s4, s5, s6, s7, s8, s9, s10, s11, s12, s13, s14, s15', s16, s17, s18]
def s19 : FnSem := d_law_less.df.sem P19
def P20 : List FnSem := [s0, s1, s2, s3, s4, s5, s6, s7, s8, s9, s10, s11, s12, s13, s14, s15', s16, s17, s18, s19]
def s20 : FnSem := d_law_drawn.df.sem P20
def P21 : List FnSem := [s0, s1, s2, s3, s4, s5, s6, s7, s8, s9, s10, s11, s12, s13, s14, s15', s16, s17, s18, s19, s20]
theorem tab_eq : semTab defs0 [] = P21 := rfl
/-! ### sizes -/
def B (k : Nat) (i : Int) : Prop := i.natAbs < 2 ^ k
theorem B.mono {k l : Nat} {i : Int} (h : B k i) (hk : k ≤ l) : B l i := Nat.lt_of_lt_of_le h (Nat.pow_le_pow_right (by decide) hk)
theorem B.mul {k l : Nat} {i j : Int} (h : B k i) (h2 : B l j) : B (k + l) (i * j) := by
  unfold B at *
  rw [Int.natAbs_mul, Nat.pow_add]
  exact Nat.mul_lt_mul'' h h2
theorem B.add {k : Nat} {i j : Int} (h : B k i) (h2 : B k j) : B (k + 1) (i + j) := by
  unfold B at *
  have := Int.natAbs_add_le i j
  rw [Nat.pow_succ]
  omega
theorem B.lg {k : Nat} {i : Int} (h : B k i) (hk : k ≤ 1900) : i.natAbs.log2 < 1900 := log2_of (h.mono hk) (by decide)
theorem B.lgm {k l : Nat} {i j : Int} (h : B k i) (hk : k ≤ 1900) (h2 : B l j) (hl : l ≤ 1900) : i.natAbs.log2 + j.natAbs.log2 < 1000000 := by
  have := h.lg hk
  have := h2.lg hl
  omega
/-! ### ratios -/
def rat (a b : Int) : Int × Int := (a.fdiv (if b < 0 then -(Int.gcd a b : Int) else Int.gcd a b), b.fdiv (if b < 0 then -(Int.gcd a b : Int) else Int.gcd a b))
theorem rat_spec {a b : Int} (hb : b ≠ 0) : ∃ g : Int, g ≠ 0 ∧ a = g * (rat a b).1 ∧ b = g * (rat a b).2 ∧ g.natAbs = Int.gcd a b ∧ 0 < (rat a b).2 := by
  have hg : 0 < Int.gcd a b := Int.gcd_pos_of_ne_zero_right a hb
  obtain ⟨p, hp⟩ := Int.gcd_dvd_left (a := a) (b := b)
  obtain ⟨q, hq⟩ := Int.gcd_dvd_right (a := a) (b := b)
  have hg0 : (Int.gcd a b : Int) ≠ 0 := by omega
  generalize hG : (Int.gcd a b : Int) = G at hp hq hg0
  have hG2 : 0 < G := by omega
  by_cases h : b < 0
  · have hq0 : q < 0 := by
      apply Classical.byContradiction
      intro z
      have : 0 ≤ G * q := Int.mul_nonneg (by omega) (by omega)
      omega
    have e1 : rat a b = (-p, -q) := by
      unfold rat
      rw [if_pos h, hG]
      have h1 : a.fdiv (-G) = -p := by
        rw [show a = (-G) * (-p) by rw [Int.neg_mul_neg]; exact hp]
        exact Int.mul_fdiv_cancel_left _ (by omega)
      have h2 : b.fdiv (-G) = -q := by
        rw [show b = (-G) * (-q) by rw [Int.neg_mul_neg]; exact hq]
        exact Int.mul_fdiv_cancel_left _ (by omega)
      rw [h1, h2]
    refine ⟨-G, by omega, ?_, ?_, by omega, ?_⟩
    · rw [e1, Int.neg_mul_neg]; exact hp
    · rw [e1, Int.neg_mul_neg]; exact hq
    · rw [e1]; show 0 < -q; omega
  · have hq0 : 0 < q := by
      apply Classical.byContradiction
      intro z
      have : G * q ≤ 0 := Int.mul_nonpos_of_nonneg_of_nonpos (by omega) (by omega)
      omega
    have e1 : rat a b = (p, q) := by
      unfold rat
      rw [if_neg h, hG]
      have h1 : a.fdiv G = p := by
        rw [hp]
        exact Int.mul_fdiv_cancel_left _ (by omega)
      have h2 : b.fdiv G = q := by
        rw [hq]
        exact Int.mul_fdiv_cancel_left _ (by omega)
      rw [h1, h2]
    refine ⟨G, by omega, ?_, ?_, by omega, ?_⟩
    · rw [e1]; exact hp
    · rw [e1]; exact hq
    · rw [e1]; exact hq0
theorem natAbs_le_of_mul {g p a : Int} (hg : g ≠ 0) (h : a = g * p) : p.natAbs ≤ a.natAbs := by
  rw [h, Int.natAbs_mul]
  exact Nat.le_mul_of_pos_left _ (by omega)
theorem rat_pos {a b : Int} (hb : b ≠ 0) : 0 < (rat a b).2 := (rat_spec hb).choose_spec.2.2.2.2
theorem rat_B1 {a b : Int} {k : Nat} (hb : b ≠ 0) (h : B k a) : B k (rat a b).1 := by
  obtain ⟨g, g0, h1, h2, h3, h4⟩ := rat_spec (a := a) hb
  exact Nat.lt_of_le_of_lt (natAbs_le_of_mul g0 h1) h
theorem rat_B2 {a b : Int} {k : Nat} (hb : b ≠ 0) (h : B k b) : B k (rat a b).2 := by
  obtain ⟨g, g0, h1, h2, h3, h4⟩ := rat_spec (a := a) hb
  exact Nat.lt_of_le_of_lt (natAbs_le_of_mul g0 h2) h
theorem rat_gcd {a b : Int} (hb : b ≠ 0) : Int.gcd (rat a b).1 (rat a b).2 = 1 := by
  obtain ⟨g, g0, h1, h2, h3, h4⟩ := rat_spec (a := a) hb
  have h5 : Int.gcd (g * (rat a b).1) (g * (rat a b).2) = g.natAbs * Int.gcd (rat a b).1 (rat a b).2 := Int.gcd_mul_left _ _ _
  rw [← h1, ← h2, ← h3] at h5
  have h6 : 0 < g.natAbs := by omega
  exact (Nat.eq_of_mul_eq_mul_left h6 (by rw [← h5, Nat.mul_one])).symm
theorem gcd_g {a b : Int} {k : Nat} (hb : b ≠ 0) (h : B k b) (hk : k ≤ 1900) : (Int.gcd a b : Int) ≠ 0 ∧ (Int.gcd a b).log2 < 9000 := by
  have hg : 0 < Int.gcd a b := Int.gcd_pos_of_ne_zero_right a hb
  have h1 : Int.gcd a b ≤ b.natAbs := Int.gcd_le_natAbs_right a hb
  have h2 : Int.gcd a b < 2 ^ 1900 := Nat.lt_of_le_of_lt h1 (h.mono hk)
  have := log2_of h2 (by decide)
  exact ⟨by omega, by omega⟩
theorem r1 {k : Nat} (a b : Int) (hb : b ≠ 0) (h : B k b) (hk : k ≤ 1900) : s1.run [iO a, iO b] = .ok (rO2 (rat a b)) [] := by
  have hg := gcd_g (a := a) hb h hk
  have hn : (-(Int.gcd a b : Int)) ≠ 0 := by omega
  have hr := r0 a b
  refine sem_rt (e := [some (iO a), some (iO b), some (iO (if b < 0 then -(Int.gcd a b : Int) else Int.gcd a b))]) rfl ?_ rfl
  show sts P1 d_ratio_b [some (iO a), some (iO b), none] = _
  unfold d_ratio_b rat
  by_cases hz : b < 0
  · simp [sts, DL.st, seqS, runM, ev, evs, evP, evO, evT, evTs, evI, evF, M.bind_def, pure_ok, of_ok', slotV_v, slotP_s, pn_var, pnOf, rd_o, rd_lm, rd_s, rdv_v, rdv_l, rdAll, fz_v, O.fzAll, valsOf, toD, fzAllM, b_add, b_sub, b_mul, b_fdiv, b_mod, b_cat, c_eq, c_ne, c_eqs, c_lt, c_le, c_gt, c_ge, t_bl, it_l, g_l, g_t, k_lenT, k_lenL, k_abs, k_int, k_intb, k_max, k_min, k_str, asgD, asgAll, callM, getAll, setAll, chkSlots, chkLst, asInt, atI_0, atI_1, size2, size1, hb, P1, hr, hz, hg.1, hg.2, hn]
  · simp [sts, DL.st, seqS, runM, ev, evs, evP, evO, evT, evTs, evI, evF, M.bind_def, pure_ok, of_ok', slotV_v, slotP_s, pn_var, pnOf, rd_o, rd_lm, rd_s, rdv_v, rdv_l, rdAll, fz_v, O.fzAll, valsOf, toD, fzAllM, b_add, b_sub, b_mul, b_fdiv, b_mod, b_cat, c_eq, c_ne, c_eqs, c_lt, c_le, c_gt, c_ge, t_bl, it_l, g_l, g_t, k_lenT, k_lenL, k_abs, k_int, k_intb, k_max, k_min, k_str, asgD, asgAll, callM, getAll, setAll, chkSlots, chkLst, asInt, atI_0, atI_1, size2, size1, hb, P1, hr, hz, hg.1, hg.2]
theorem r16 {k : Nat} (a b : Int) (hb : b ≠ 0) (h : B k b) (hk : k ≤ 1900) : s16.run [iO a, iO b] = .ok (rO2 (rat a b)) [] := by
  have hg := gcd_g (a := a) hb h hk
  have hn : (-(Int.gcd a b : Int)) ≠ 0 := by omega
  have hr := r15 P15 a b
  refine sem_rt (e := [some (iO a), some (iO b), some (iO (if b < 0 then -(Int.gcd a b : Int) else Int.gcd a b))]) rfl ?_ rfl
  show sts P16 d_law_ratio_b [some (iO a), some (iO b), none] = _
  unfold d_law_ratio_b rat
  by_cases hz : b < 0
  · simp [sts, DL.st, seqS, runM, ev, evs, evP, evO, evT, evTs, evI, evF, M.bind_def, pure_ok, of_ok', slotV_v, slotP_s, pn_var, pnOf, rd_o, rd_lm, rd_s, rdv_v, rdv_l, rdAll, fz_v, O.fzAll, valsOf, toD, fzAllM, b_add, b_sub, b_mul, b_fdiv, b_mod, b_cat, c_eq, c_ne, c_eqs, c_lt, c_le, c_gt, c_ge, t_bl, it_l, g_l, g_t, k_lenT, k_lenL, k_abs, k_int, k_intb, k_max, k_min, k_str, asgD, asgAll, callM, getAll, setAll, chkSlots, chkLst, asInt, atI_0, atI_1, size2, size1, hb, P16, hr, hz, hg.1, hg.2, hn]
  · simp [sts, DL.st, seqS, runM, ev, evs, evP, evO, evT, evTs, evI, evF, M.bind_def, pure_ok, of_ok', slotV_v, slotP_s, pn_var, pnOf, rd_o, rd_lm, rd_s, rdv_v, rdv_l, rdAll, fz_v, O.fzAll, valsOf, toD, fzAllM, b_add, b_sub, b_mul, b_fdiv, b_mod, b_cat, c_eq, c_ne, c_eqs, c_lt, c_le, c_gt, c_ge, t_bl, it_l, g_l, g_t, k_lenT, k_lenL, k_abs, k_int, k_intb, k_max, k_min, k_str, asgD, asgAll, callM, getAll, setAll, chkSlots, chkLst, asInt, atI_0, atI_1, size2, size1, hb, P16, hr, hz, hg.1, hg.2]
end K01
namespace K01
open PySem PySem.Spec PyProof.Rows L2 DL
/-! ### the small defs -/
theorem r2 (p : Int × Int) : s2.run [rO2 p] = .ok (bO (decide (1 ≤ p.2) && decide ((Int.gcd p.1 p.2 : Int) = 1))) [] := by
  have hr := r0 p.1 p.2
  refine sem_rt (e := [some (rO2 p)]) rfl ?_ rfl
  show sts P2 d_is_ratio_b [some (rO2 p)] = _
  unfold d_is_ratio_b
  by_cases hz : 1 ≤ p.2
  · simp [sts, DL.st, seqS, runM, ev, evs, evP, evO, evT, evTs, evI, evF, M.bind_def, pure_ok, of_ok', slotV_v, slotP_s, pn_var, pnOf, rd_o, rd_lm, rd_s, rdv_v, rdv_l, rdAll, fz_v, O.fzAll, valsOf, toD, fzAllM, b_add, b_sub, b_mul, b_fdiv, b_mod, b_cat, c_eq, c_ne, c_eqs, c_lt, c_le, c_gt, c_ge, t_bl, it_l, g_l, g_t, k_lenT, k_lenL, k_abs, k_int, k_intb, k_max, k_min, k_str, asgD, asgAll, callM, getAll, setAll, chkSlots, chkLst, asInt, atI_0, atI_1, size2, size1, P2, hr, hz]
  · simp [sts, DL.st, seqS, runM, ev, evs, evP, evO, evT, evTs, evI, evF, M.bind_def, pure_ok, of_ok', slotV_v, slotP_s, pn_var, pnOf, rd_o, rd_lm, rd_s, rdv_v, rdv_l, rdAll, fz_v, O.fzAll, valsOf, toD, fzAllM, b_add, b_sub, b_mul, b_fdiv, b_mod, b_cat, c_eq, c_ne, c_eqs, c_lt, c_le, c_gt, c_ge, t_bl, it_l, g_l, g_t, k_lenT, k_lenL, k_abs, k_int, k_intb, k_max, k_min, k_str, asgD, asgAll, callM, getAll, setAll, chkSlots, chkLst, asInt, atI_0, atI_1, size2, size1, P2, hr, hz]
def plus (x y : Int × Int) : Int × Int := rat (x.1 * y.2 + y.1 * x.2) (x.2 * y.2)
def tms (x y : Int × Int) : Int × Int := rat (x.1 * y.1) (x.2 * y.2)
def ovr (x y : Int × Int) : Int × Int := rat (x.1 * y.2) (x.2 * y.1)
def les (x y : Int × Int) : Bool := decide (x.1 * y.2 < y.1 * x.2)
/-- a ratio of so many bits -/
structure Q (k : Nat) (x : Int × Int) : Prop where
  n : B k x.1
  d : B k x.2
  p : 0 < x.2
theorem Q.mono {k l : Nat} {x : Int × Int} (h : Q k x) (hk : k ≤ l) : Q l x := ⟨h.n.mono hk, h.d.mono hk, h.p⟩
theorem Q.rat {a b : Int} {k : Nat} (ha : B k a) (hb : B k b) (h0 : b ≠ 0) : Q k (rat a b) := ⟨rat_B1 h0 ha, rat_B2 h0 hb, rat_pos h0⟩
theorem ne_mul {x y : Int} (hx : x ≠ 0) (hy : y ≠ 0) : x * y ≠ 0 := Int.mul_ne_zero hx hy
theorem Q.ne {k : Nat} {x : Int × Int} (h : Q k x) : x.2 ≠ 0 := by have := h.p; omega
theorem Q.plus {k l : Nat} {x y : Int × Int} (hx : Q k x) (hy : Q l y) : Q (k + l + 1) (plus x y) :=
  .rat ((hx.n.mul hy.d).add (by rw [Int.mul_comm]; exact hx.d.mul hy.n)) ((hx.d.mul hy.d).mono (by omega)) (ne_mul hx.ne hy.ne)
theorem Q.tms {k l : Nat} {x y : Int × Int} (hx : Q k x) (hy : Q l y) : Q (k + l) (tms x y) :=
  .rat (hx.n.mul hy.n) (hx.d.mul hy.d) (ne_mul hx.ne hy.ne)
theorem r3 {k l : Nat} {x y : Int × Int} (hx : Q k x) (hy : Q l y) (hkl : k + l ≤ 1800) : s3.run [rO2 x, rO2 y] = .ok (rO2 (plus x y)) [] := by
  have hr := r1 (x.1 * y.2 + y.1 * x.2) (x.2 * y.2) (ne_mul hx.ne hy.ne) (hx.d.mul hy.d) (by omega)
  refine sem_rt (e := [some (rO2 x), some (rO2 y)]) rfl ?_ rfl
  show sts P3 d_added_b [some (rO2 x), some (rO2 y)] = _
  unfold d_added_b plus
  simp [sts, DL.st, seqS, runM, ev, evs, evP, evO, evT, evTs, evI, evF, M.bind_def, pure_ok, of_ok', slotV_v, slotP_s, pn_var, pnOf, rd_o, rd_lm, rd_s, rdv_v, rdv_l, rdAll, fz_v, O.fzAll, valsOf, toD, fzAllM, b_add, b_sub, b_mul, b_fdiv, b_mod, b_cat, c_eq, c_ne, c_eqs, c_lt, c_le, c_gt, c_ge, t_bl, it_l, g_l, g_t, k_lenT, k_lenL, k_abs, k_int, k_intb, k_max, k_min, k_str, asgD, asgAll, callM, getAll, setAll, chkSlots, chkLst, asInt, atI_0, atI_1, size2, size1, P3, hr, hx.n.lgm (by omega) hy.d (by omega), hx.d.lgm (by omega) hy.d (by omega), hy.n.lgm (by omega) hx.d (by omega)]
theorem r17 {k l : Nat} {x y : Int × Int} (hx : Q k x) (hy : Q l y) (hkl : k + l ≤ 1800) : s17.run [rO2 x, rO2 y] = .ok (rO2 (plus x y)) [] := by
  have hr := r16 (x.1 * y.2 + y.1 * x.2) (x.2 * y.2) (ne_mul hx.ne hy.ne) (hx.d.mul hy.d) (by omega)
  refine sem_rt (e := [some (rO2 x), some (rO2 y)]) rfl ?_ rfl
  show sts P17 d_law_plus_b [some (rO2 x), some (rO2 y)] = _
  unfold d_law_plus_b plus
  simp [sts, DL.st, seqS, runM, ev, evs, evP, evO, evT, evTs, evI, evF, M.bind_def, pure_ok, of_ok', slotV_v, slotP_s, pn_var, pnOf, rd_o, rd_lm, rd_s, rdv_v, rdv_l, rdAll, fz_v, O.fzAll, valsOf, toD, fzAllM, b_add, b_sub, b_mul, b_fdiv, b_mod, b_cat, c_eq, c_ne, c_eqs, c_lt, c_le, c_gt, c_ge, t_bl, it_l, g_l, g_t, k_lenT, k_lenL, k_abs, k_int, k_intb, k_max, k_min, k_str, asgD, asgAll, callM, getAll, setAll, chkSlots, chkLst, asInt, atI_0, atI_1, size2, size1, P17, hr, hx.n.lgm (by omega) hy.d (by omega), hx.d.lgm (by omega) hy.d (by omega), hy.n.lgm (by omega) hx.d (by omega)]
theorem r4 (x : Int × Int) : s4.run [rO2 x] = .ok (rO2 (-x.1, x.2)) [] := by
  refine sem_rt (e := [some (rO2 x)]) rfl ?_ rfl
  show sts P4 d_negative_b [some (rO2 x)] = _
  unfold d_negative_b
  simp [sts, DL.st, seqS, runM, ev, evs, evP, evO, evT, evTs, evI, evF, M.bind_def, pure_ok, of_ok', slotV_v, slotP_s, pn_var, pnOf, rd_o, rd_lm, rd_s, rdv_v, rdv_l, rdAll, fz_v, O.fzAll, valsOf, toD, fzAllM, b_add, b_sub, b_mul, b_fdiv, b_mod, b_cat, c_eq, c_ne, c_eqs, c_lt, c_le, c_gt, c_ge, t_bl, it_l, g_l, g_t, k_lenT, k_lenL, k_abs, k_int, k_intb, k_max, k_min, k_str, asgD, asgAll, callM, getAll, setAll, chkSlots, chkLst, asInt, atI_0, atI_1, size2, size1]
theorem r5 {k l : Nat} {x y : Int × Int} (hx : Q k x) (hy : Q l y) (hkl : k + l ≤ 1800) : s5.run [rO2 x, rO2 y] = .ok (rO2 (tms x y)) [] := by
  have hr := r1 (x.1 * y.1) (x.2 * y.2) (ne_mul hx.ne hy.ne) (hx.d.mul hy.d) (by omega)
  refine sem_rt (e := [some (rO2 x), some (rO2 y)]) rfl ?_ rfl
  show sts P5 d_times_b [some (rO2 x), some (rO2 y)] = _
  unfold d_times_b tms
  simp [sts, DL.st, seqS, runM, ev, evs, evP, evO, evT, evTs, evI, evF, M.bind_def, pure_ok, of_ok', slotV_v, slotP_s, pn_var, pnOf, rd_o, rd_lm, rd_s, rdv_v, rdv_l, rdAll, fz_v, O.fzAll, valsOf, toD, fzAllM, b_add, b_sub, b_mul, b_fdiv, b_mod, b_cat, c_eq, c_ne, c_eqs, c_lt, c_le, c_gt, c_ge, t_bl, it_l, g_l, g_t, k_lenT, k_lenL, k_abs, k_int, k_intb, k_max, k_min, k_str, asgD, asgAll, callM, getAll, setAll, chkSlots, chkLst, asInt, atI_0, atI_1, size2, size1, P5, hr, hx.n.lgm (by omega) hy.n (by omega), hx.d.lgm (by omega) hy.d (by omega)]
theorem r6 {k l : Nat} {x y : Int × Int} (hx : Q k x) (hy : Q l y) (h0 : y.1 ≠ 0) (hkl : k + l ≤ 1800) : s6.run [rO2 x, rO2 y] = .ok (rO2 (ovr x y)) [] := by
  have hr := r1 (x.1 * y.2) (x.2 * y.1) (ne_mul hx.ne h0) (hx.d.mul hy.n) (by omega)
  refine sem_rt (e := [some (rO2 x), some (rO2 y)]) rfl ?_ rfl
  show sts P6 d_over_b [some (rO2 x), some (rO2 y)] = _
  unfold d_over_b ovr
  simp [sts, DL.st, seqS, runM, ev, evs, evP, evO, evT, evTs, evI, evF, M.bind_def, pure_ok, of_ok', slotV_v, slotP_s, pn_var, pnOf, rd_o, rd_lm, rd_s, rdv_v, rdv_l, rdAll, fz_v, O.fzAll, valsOf, toD, fzAllM, b_add, b_sub, b_mul, b_fdiv, b_mod, b_cat, c_eq, c_ne, c_eqs, c_lt, c_le, c_gt, c_ge, t_bl, it_l, g_l, g_t, k_lenT, k_lenL, k_abs, k_int, k_intb, k_max, k_min, k_str, asgD, asgAll, callM, getAll, setAll, chkSlots, chkLst, asInt, atI_0, atI_1, size2, size1, P6, hr, hx.n.lgm (by omega) hy.d (by omega), hx.d.lgm (by omega) hy.n (by omega)]
theorem r7 {k l : Nat} {x y : Int × Int} (hx : Q k x) (hy : Q l y) (hkl : k + l ≤ 1800) : s7.run [rO2 x, rO2 y] = .ok (bO (les x y)) [] := by
  refine sem_rt (e := [some (rO2 x), some (rO2 y)]) rfl ?_ rfl
  show sts P7 d_less_b [some (rO2 x), some (rO2 y)] = _
  unfold d_less_b les
  simp [sts, DL.st, seqS, runM, ev, evs, evP, evO, evT, evTs, evI, evF, M.bind_def, pure_ok, of_ok', slotV_v, slotP_s, pn_var, pnOf, rd_o, rd_lm, rd_s, rdv_v, rdv_l, rdAll, fz_v, O.fzAll, valsOf, toD, fzAllM, b_add, b_sub, b_mul, b_fdiv, b_mod, b_cat, c_eq, c_ne, c_eqs, c_lt, c_le, c_gt, c_ge, t_bl, it_l, g_l, g_t, k_lenT, k_lenL, k_abs, k_int, k_intb, k_max, k_min, k_str, asgD, asgAll, callM, getAll, setAll, chkSlots, chkLst, asInt, atI_0, atI_1, size2, size1, hx.n.lgm (by omega) hy.d (by omega), hy.n.lgm (by omega) hx.d (by omega)]
theorem r19 {k l : Nat} {x y : Int × Int} (hx : Q k x) (hy : Q l y) (hkl : k + l ≤ 1800) : s19.run [rO2 x, rO2 y] = .ok (bO (les x y)) [] := by
  refine sem_rt (e := [some (rO2 x), some (rO2 y)]) rfl ?_ rfl
  show sts P19 d_law_less_b [some (rO2 x), some (rO2 y)] = _
  unfold d_law_less_b les
  simp [sts, DL.st, seqS, runM, ev, evs, evP, evO, evT, evTs, evI, evF, M.bind_def, pure_ok, of_ok', slotV_v, slotP_s, pn_var, pnOf, rd_o, rd_lm, rd_s, rdv_v, rdv_l, rdAll, fz_v, O.fzAll, valsOf, toD, fzAllM, b_add, b_sub, b_mul, b_fdiv, b_mod, b_cat, c_eq, c_ne, c_eqs, c_lt, c_le, c_gt, c_ge, t_bl, it_l, g_l, g_t, k_lenT, k_lenL, k_abs, k_int, k_intb, k_max, k_min, k_str, asgD, asgAll, callM, getAll, setAll, chkSlots, chkLst, asInt, atI_0, atI_1, size2, size1, hx.n.lgm (by omega) hy.d (by omega), hy.n.lgm (by omega) hx.d (by omega)]
/-! ### sums -/
abbrev lR (rows : List (Int × Int)) : O := .val (.list (rows.map rD))
theorem sum_loop {Φ : List FnSem} {j : Nat} {φ : FnSem} (hj : Φ[j]? = some φ) (hφ : ∀ {k l : Nat} {x y : Int × Int}, Q k x → Q l y → k + l ≤ 1800 → φ.run [rO2 x, rO2 y] = .ok (rO2 (plus x y)) []) (v : Option O) :
    ∀ (rows : List (Int × Int)) (k : Nat) (t : Int × Int) (z : Option O), Q k t → (∀ x ∈ rows, Q 60 x) → k + 61 * rows.length ≤ 1700 → ∃ z', forD (asgD (.name 2)) (sts Φ [.asgN 1 (.call j [] [(.var 1), (.var 2)])]) (rows.map rD) [v, some (rO2 t), z] = .nx [v, some (rO2 (rows.foldl plus t)), z']
  | [], k, t, z, _, _, _ => ⟨z, rfl⟩
  | x :: rows, k, t, z, ht, hr, hk => by
    have hx := hr x (by simp)
    simp only [List.length_cons] at hk
    have h1 := hφ ht hx (by omega)
    obtain ⟨z', h2⟩ := sum_loop hj hφ v rows (k + 60 + 1) (plus t x) (some (rO2 x)) (ht.plus hx) (fun y hy => hr y (by simp [hy])) (by omega)
    refine ⟨z', ?_⟩
    rw [List.map_cons, for_nx (e1 := [v, some (rO2 t), some (rO2 x)]) (e2 := [v, some (rO2 (plus t x)), some (rO2 x)]) (by simp [sts, DL.st, seqS, runM, ev, evs, evP, evO, evT, evTs, evI, evF, M.bind_def, pure_ok, of_ok', slotV_v, slotP_s, pn_var, pnOf, rd_o, rd_lm, rd_s, rdv_v, rdv_l, rdAll, fz_v, O.fzAll, valsOf, toD, fzAllM, b_add, b_sub, b_mul, b_fdiv, b_mod, b_cat, c_eq, c_ne, c_eqs, c_lt, c_le, c_gt, c_ge, t_bl, it_l, g_l, g_t, k_lenT, k_lenL, k_abs, k_int, k_intb, k_max, k_min, k_str, asgD, asgAll, callM, getAll, setAll, chkSlots, chkLst, asInt, atI_0, atI_1, size2, size1]) (by simp [sts, DL.st, seqS, runM, ev, evs, evP, evO, evT, evTs, evI, evF, M.bind_def, pure_ok, of_ok', slotV_v, slotP_s, pn_var, pnOf, rd_o, rd_lm, rd_s, rdv_v, rdv_l, rdAll, fz_v, O.fzAll, valsOf, toD, fzAllM, b_add, b_sub, b_mul, b_fdiv, b_mod, b_cat, c_eq, c_ne, c_eqs, c_lt, c_le, c_gt, c_ge, t_bl, it_l, g_l, g_t, k_lenT, k_lenL, k_abs, k_int, k_intb, k_max, k_min, k_str, asgD, asgAll, callM, getAll, setAll, chkSlots, chkLst, asInt, atI_0, atI_1, size2, size1, hj, h1])]
    exact h2
def sumR (rows : List (Int × Int)) : Int × Int := rows.foldl plus (0, 1)
theorem q01 : Q 60 (0, 1) := ⟨by unfold B; decide, by unfold B; decide, by decide⟩
theorem r9 (rows : List (Int × Int)) (hr : ∀ x ∈ rows, Q 60 x) (hl : rows.length ≤ 20) : s9.run [lR rows] = .ok (rO2 (sumR rows)) [] := by
  obtain ⟨z, h⟩ := sum_loop (Φ := P9) (j := 3) rfl r3 (some (lR rows)) rows 60 (0, 1) none q01 hr (by omega)
  refine sem_rt (e := [some (lR rows), some (rO2 (sumR rows)), z]) rfl ?_ rfl
  show sts P9 d_summed_b [some (lR rows), none, none] = _
  unfold d_summed_b
  rw [sts_nx (e1 := [some (lR rows), some (rO2 (0, 1)), none]) (by simp [sts, DL.st, seqS, runM, ev, evs, evP, evO, evT, evTs, evI, evF, M.bind_def, pure_ok, of_ok', slotV_v, slotP_s, pn_var, pnOf, rd_o, rd_lm, rd_s, rdv_v, rdv_l, rdAll, fz_v, O.fzAll, valsOf, toD, fzAllM, b_add, b_sub, b_mul, b_fdiv, b_mod, b_cat, c_eq, c_ne, c_eqs, c_lt, c_le, c_gt, c_ge, t_bl, it_l, g_l, g_t, k_lenT, k_lenL, k_abs, k_int, k_intb, k_max, k_min, k_str, asgD, asgAll, callM, getAll, setAll, chkSlots, chkLst, asInt, atI_0, atI_1, size2, size1]), sts_nx (e1 := [some (lR rows), some (rO2 (sumR rows)), z]) ?_]
  · simp [sts, DL.st, seqS, runM, ev, evs, evP, evO, evT, evTs, evI, evF, M.bind_def, pure_ok, of_ok', slotV_v, slotP_s, pn_var, pnOf, rd_o, rd_lm, rd_s, rdv_v, rdv_l, rdAll, fz_v, O.fzAll, valsOf, toD, fzAllM, b_add, b_sub, b_mul, b_fdiv, b_mod, b_cat, c_eq, c_ne, c_eqs, c_lt, c_le, c_gt, c_ge, t_bl, it_l, g_l, g_t, k_lenT, k_lenL, k_abs, k_int, k_intb, k_max, k_min, k_str, asgD, asgAll, callM, getAll, setAll, chkSlots, chkLst, asInt, atI_0, atI_1, size2, size1]
  · rw [st_loop (e1 := [some (lR rows), some (rO2 (0, 1)), none]) (ds := rows.map rD) (by simp [sts, DL.st, seqS, runM, ev, evs, evP, evO, evT, evTs, evI, evF, M.bind_def, pure_ok, of_ok', slotV_v, slotP_s, pn_var, pnOf, rd_o, rd_lm, rd_s, rdv_v, rdv_l, rdAll, fz_v, O.fzAll, valsOf, toD, fzAllM, b_add, b_sub, b_mul, b_fdiv, b_mod, b_cat, c_eq, c_ne, c_eqs, c_lt, c_le, c_gt, c_ge, t_bl, it_l, g_l, g_t, k_lenT, k_lenL, k_abs, k_int, k_intb, k_max, k_min, k_str, asgD, asgAll, callM, getAll, setAll, chkSlots, chkLst, asInt, atI_0, atI_1, size2, size1, itD])]
    exact h
theorem r18 (rows : List (Int × Int)) (hr : ∀ x ∈ rows, Q 60 x) (hl : rows.length ≤ 20) : s18.run [lR rows] = .ok (rO2 (sumR rows)) [] := by
  obtain ⟨z, h⟩ := sum_loop (Φ := P18) (j := 17) rfl r17 (some (lR rows)) rows 60 (0, 1) none q01 hr (by omega)
  refine sem_rt (e := [some (lR rows), some (rO2 (sumR rows)), z]) rfl ?_ rfl
  show sts P18 d_law_sum_b [some (lR rows), none, none] = _
  unfold d_law_sum_b
  rw [sts_nx (e1 := [some (lR rows), some (rO2 (0, 1)), none]) (by simp [sts, DL.st, seqS, runM, ev, evs, evP, evO, evT, evTs, evI, evF, M.bind_def, pure_ok, of_ok', slotV_v, slotP_s, pn_var, pnOf, rd_o, rd_lm, rd_s, rdv_v, rdv_l, rdAll, fz_v, O.fzAll, valsOf, toD, fzAllM, b_add, b_sub, b_mul, b_fdiv, b_mod, b_cat, c_eq, c_ne, c_eqs, c_lt, c_le, c_gt, c_ge, t_bl, it_l, g_l, g_t, k_lenT, k_lenL, k_abs, k_int, k_intb, k_max, k_min, k_str, asgD, asgAll, callM, getAll, setAll, chkSlots, chkLst, asInt, atI_0, atI_1, size2, size1]), sts_nx (e1 := [some (lR rows), some (rO2 (sumR rows)), z]) ?_]
  · simp [sts, DL.st, seqS, runM, ev, evs, evP, evO, evT, evTs, evI, evF, M.bind_def, pure_ok, of_ok', slotV_v, slotP_s, pn_var, pnOf, rd_o, rd_lm, rd_s, rdv_v, rdv_l, rdAll, fz_v, O.fzAll, valsOf, toD, fzAllM, b_add, b_sub, b_mul, b_fdiv, b_mod, b_cat, c_eq, c_ne, c_eqs, c_lt, c_le, c_gt, c_ge, t_bl, it_l, g_l, g_t, k_lenT, k_lenL, k_abs, k_int, k_intb, k_max, k_min, k_str, asgD, asgAll, callM, getAll, setAll, chkSlots, chkLst, asInt, atI_0, atI_1, size2, size1]
  · rw [st_loop (e1 := [some (lR rows), some (rO2 (0, 1)), none]) (ds := rows.map rD) (by simp [sts, DL.st, seqS, runM, ev, evs, evP, evO, evT, evTs, evI, evF, M.bind_def, pure_ok, of_ok', slotV_v, slotP_s, pn_var, pnOf, rd_o, rd_lm, rd_s, rdv_v, rdv_l, rdAll, fz_v, O.fzAll, valsOf, toD, fzAllM, b_add, b_sub, b_mul, b_fdiv, b_mod, b_cat, c_eq, c_ne, c_eqs, c_lt, c_le, c_gt, c_ge, t_bl, it_l, g_l, g_t, k_lenT, k_lenL, k_abs, k_int, k_intb, k_max, k_min, k_str, asgD, asgAll, callM, getAll, setAll, chkSlots, chkLst, asInt, atI_0, atI_1, size2, size1, itD])]
    exact h
/-! ### the greatest -/
def bst (b v : Int × Int) : Int × Int := if les b v then v else b
theorem bst_Q {k : Nat} {b v : Int × Int} (hb : Q k b) (hv : Q k v) : Q k (bst b v) := by
  unfold bst; split <;> assumption
theorem best_loop (v : Option O) : ∀ (rows : List (Int × Int)) (t : Int × Int) (z : Option O), Q 60 t → (∀ x ∈ rows, Q 60 x) → ∃ z', forD (asgD (.name 2)) (sts P8 [.asgN 1 (.ite (.v (.call 7 [] [(.var 1), (.var 2)])) (.var 2) (.var 1))]) (rows.map rD) [v, some (rO2 t), z] = .nx [v, some (rO2 (rows.foldl bst t)), z']
  | [], t, z, _, _ => ⟨z, rfl⟩
  | x :: rows, t, z, ht, hr => by
    have hx := hr x (by simp)
    have h1 := r7 ht hx (by omega)
    obtain ⟨z', h2⟩ := best_loop v rows (bst t x) (some (rO2 x)) (bst_Q ht hx) (fun y hy => hr y (by simp [hy]))
    refine ⟨z', ?_⟩
    rw [List.map_cons, for_nx (e1 := [v, some (rO2 t), some (rO2 x)]) (e2 := [v, some (rO2 (bst t x)), some (rO2 x)]) (by simp [sts, DL.st, seqS, runM, ev, evs, evP, evO, evT, evTs, evI, evF, M.bind_def, pure_ok, of_ok', slotV_v, slotP_s, pn_var, pnOf, rd_o, rd_lm, rd_s, rdv_v, rdv_l, rdAll, fz_v, O.fzAll, valsOf, toD, fzAllM, b_add, b_sub, b_mul, b_fdiv, b_mod, b_cat, c_eq, c_ne, c_eqs, c_lt, c_le, c_gt, c_ge, t_bl, it_l, g_l, g_t, k_lenT, k_lenL, k_abs, k_int, k_intb, k_max, k_min, k_str, asgD, asgAll, callM, getAll, setAll, chkSlots, chkLst, asInt, atI_0, atI_1, size2, size1]) ?_]
    · exact h2
    · unfold bst
      cases hc : les t x with
      | true => rw [hc] at h1; simp [sts, DL.st, seqS, runM, ev, evs, evP, evO, evT, evTs, evI, evF, M.bind_def, pure_ok, of_ok', slotV_v, slotP_s, pn_var, pnOf, rd_o, rd_lm, rd_s, rdv_v, rdv_l, rdAll, fz_v, O.fzAll, valsOf, toD, fzAllM, b_add, b_sub, b_mul, b_fdiv, b_mod, b_cat, c_eq, c_ne, c_eqs, c_lt, c_le, c_gt, c_ge, t_bl, it_l, g_l, g_t, k_lenT, k_lenL, k_abs, k_int, k_intb, k_max, k_min, k_str, asgD, asgAll, callM, getAll, setAll, chkSlots, chkLst, asInt, atI_0, atI_1, size2, size1, P8, h1]
      | false => rw [hc] at h1; simp [sts, DL.st, seqS, runM, ev, evs, evP, evO, evT, evTs, evI, evF, M.bind_def, pure_ok, of_ok', slotV_v, slotP_s, pn_var, pnOf, rd_o, rd_lm, rd_s, rdv_v, rdv_l, rdAll, fz_v, O.fzAll, valsOf, toD, fzAllM, b_add, b_sub, b_mul, b_fdiv, b_mod, b_cat, c_eq, c_ne, c_eqs, c_lt, c_le, c_gt, c_ge, t_bl, it_l, g_l, g_t, k_lenT, k_lenL, k_abs, k_int, k_intb, k_max, k_min, k_str, asgD, asgAll, callM, getAll, setAll, chkSlots, chkLst, asInt, atI_0, atI_1, size2, size1, P8, h1]
theorem r8 (x : Int × Int) (rows : List (Int × Int)) (hr : ∀ y ∈ x :: rows, Q 60 y) : s8.run [lR (x :: rows)] = .ok (rO2 (rows.foldl bst x)) [] := by
  obtain ⟨z, h⟩ := best_loop (some (lR (x :: rows))) rows x none (hr x (by simp)) (fun y hy => hr y (by simp [hy]))
  refine sem_rt (e := [some (lR (x :: rows)), some (rO2 (rows.foldl bst x)), z]) rfl ?_ rfl
  show sts P8 d_greatest_b [some (lR (x :: rows)), none, none] = _
  unfold d_greatest_b
  have hcut : cutL (rD x :: rows.map rD) (some 1) none = rows.map rD := by
    unfold cutL
    rw [show HT.sIx (rD x :: rows.map rD).length 0 (some 1) = min 1 (rD x :: rows.map rD).length from HT.sIx_nat _ 0 1, HT.sIx_none]
    simp
    exact List.take_of_length_le (by simp)
  rw [sts_nx (e1 := [some (lR (x :: rows)), some (rO2 x), none]) (by simp [sts, DL.st, seqS, runM, ev, evs, evP, evO, evT, evTs, evI, evF, M.bind_def, pure_ok, of_ok', slotV_v, slotP_s, pn_var, pnOf, rd_o, rd_lm, rd_s, rdv_v, rdv_l, rdAll, fz_v, O.fzAll, valsOf, toD, fzAllM, b_add, b_sub, b_mul, b_fdiv, b_mod, b_cat, c_eq, c_ne, c_eqs, c_lt, c_le, c_gt, c_ge, t_bl, it_l, g_l, g_t, k_lenT, k_lenL, k_abs, k_int, k_intb, k_max, k_min, k_str, asgD, asgAll, callM, getAll, setAll, chkSlots, chkLst, asInt, atI_0, atI_1, size2, size1]), sts_nx (e1 := [some (lR (x :: rows)), some (rO2 (rows.foldl bst x)), z]) ?_]
  · simp [sts, DL.st, seqS, runM, ev, evs, evP, evO, evT, evTs, evI, evF, M.bind_def, pure_ok, of_ok', slotV_v, slotP_s, pn_var, pnOf, rd_o, rd_lm, rd_s, rdv_v, rdv_l, rdAll, fz_v, O.fzAll, valsOf, toD, fzAllM, b_add, b_sub, b_mul, b_fdiv, b_mod, b_cat, c_eq, c_ne, c_eqs, c_lt, c_le, c_gt, c_ge, t_bl, it_l, g_l, g_t, k_lenT, k_lenL, k_abs, k_int, k_intb, k_max, k_min, k_str, asgD, asgAll, callM, getAll, setAll, chkSlots, chkLst, asInt, atI_0, atI_1, size2, size1]
  · rw [st_loop (e1 := [some (lR (x :: rows)), some (rO2 x), none]) (ds := rows.map rD) ?_]
    · exact h
    · simp [sts, DL.st, seqS, runM, ev, evs, evP, evO, evT, evTs, evI, evF, M.bind_def, pure_ok, of_ok', slotV_v, slotP_s, pn_var, pnOf, rd_o, rd_lm, rd_s, rdv_v, rdv_l, rdAll, fz_v, O.fzAll, valsOf, toD, fzAllM, b_add, b_sub, b_mul, b_fdiv, b_mod, b_cat, c_eq, c_ne, c_eqs, c_lt, c_le, c_gt, c_ge, t_bl, it_l, g_l, g_t, k_lenT, k_lenL, k_abs, k_int, k_intb, k_max, k_min, k_str, asgD, asgAll, callM, getAll, setAll, chkSlots, chkLst, asInt, atI_0, atI_1, size2, size1, itD, DL.cutD, hcut, fz_lst, -List.map_map]
/-! ### weighed -/
theorem comp_tms (v w : Option O) : ∀ (rows more : List (Int × Int)), rows.length = more.length → (∀ x ∈ rows, Q 30 x) → (∀ x ∈ more, Q 30 x) →
    compD (asgD (.tup [(.name 2), (.name 3)])) (evTs P10 none) (ev P10 (.call 5 [] [(.var 2), (.var 3)])) [2, 3] (zipD (rows.map rD) (more.map rD)) [v, w, none, none] = .ok ((List.zipWith tms rows more).map rO2) [v, w, none, none]
  | [], [], _, _, _ => rfl
  | x :: rows, y :: more, hl, hr, hm => by
    have h1 := r5 (hr x (by simp)) (hm y (by simp)) (by omega)
    have h2 := comp_tms v w rows more (by simpa using hl) (fun z hz => hr z (by simp [hz])) (fun z hz => hm z (by simp [hz]))
    have e1 : zipD ((x :: rows).map rD) ((y :: more).map rD) = .tuple [rD x, rD y] :: zipD (rows.map rD) (more.map rD) := rfl
    rw [e1]
    show ((asgD _ _) >>= fun _ => _) _ = _
    rw [M.bind_ok (a := ()) (e' := [v, w, some (rO2 x), some (rO2 y)]) (by simp [sts, DL.st, seqS, runM, ev, evs, evP, evO, evT, evTs, evI, evF, M.bind_def, pure_ok, of_ok', slotV_v, slotP_s, pn_var, pnOf, rd_o, rd_lm, rd_s, rdv_v, rdv_l, rdAll, fz_v, O.fzAll, valsOf, toD, fzAllM, b_add, b_sub, b_mul, b_fdiv, b_mod, b_cat, c_eq, c_ne, c_eqs, c_lt, c_le, c_gt, c_ge, t_bl, it_l, g_l, g_t, k_lenT, k_lenL, k_abs, k_int, k_intb, k_max, k_min, k_str, asgD, asgAll, callM, getAll, setAll, chkSlots, chkLst, asInt, atI_0, atI_1, size2, size1]), M.bind_ok (a := true) (e' := [v, w, some (rO2 x), some (rO2 y)]) (by simp [sts, DL.st, seqS, runM, ev, evs, evP, evO, evT, evTs, evI, evF, M.bind_def, pure_ok, of_ok', slotV_v, slotP_s, pn_var, pnOf, rd_o, rd_lm, rd_s, rdv_v, rdv_l, rdAll, fz_v, O.fzAll, valsOf, toD, fzAllM, b_add, b_sub, b_mul, b_fdiv, b_mod, b_cat, c_eq, c_ne, c_eqs, c_lt, c_le, c_gt, c_ge, t_bl, it_l, g_l, g_t, k_lenT, k_lenL, k_abs, k_int, k_intb, k_max, k_min, k_str, asgD, asgAll, callM, getAll, setAll, chkSlots, chkLst, asInt, atI_0, atI_1, size2, size1])]
    simp only [if_true]
    rw [M.bind_ok (a := rO2 (tms x y)) (e' := [v, w, some (rO2 x), some (rO2 y)]) (by simp [sts, DL.st, seqS, runM, ev, evs, evP, evO, evT, evTs, evI, evF, M.bind_def, pure_ok, of_ok', slotV_v, slotP_s, pn_var, pnOf, rd_o, rd_lm, rd_s, rdv_v, rdv_l, rdAll, fz_v, O.fzAll, valsOf, toD, fzAllM, b_add, b_sub, b_mul, b_fdiv, b_mod, b_cat, c_eq, c_ne, c_eqs, c_lt, c_le, c_gt, c_ge, t_bl, it_l, g_l, g_t, k_lenT, k_lenL, k_abs, k_int, k_intb, k_max, k_min, k_str, asgD, asgAll, callM, getAll, setAll, chkSlots, chkLst, asInt, atI_0, atI_1, size2, size1, P10, h1]), M.bind_ok (a := ()) (e' := [v, w, none, none]) (by simp [wipeM, isVal, wipeE]), M.bind_ok h2]
    rfl
  | [], _ :: _, h, _, _ => by simp at h
  | _ :: _, [], h, _, _ => by simp at h
theorem zw_Q : ∀ (rows more : List (Int × Int)), (∀ x ∈ rows, Q 30 x) → (∀ x ∈ more, Q 30 x) → ∀ x ∈ List.zipWith tms rows more, Q 60 x
  | [], _, _, _, x, h => by simp at h
  | _ :: _, [], _, _, x, h => by simp at h
  | a :: rows, b :: more, h1, h2, x, h => by
    simp only [List.zipWith_cons_cons, List.mem_cons] at h
    rcases h with h | h
    · rw [h]; exact (h1 a (by simp)).tms (h2 b (by simp))
    · exact zw_Q rows more (fun z hz => h1 z (by simp [hz])) (fun z hz => h2 z (by simp [hz])) x h
theorem lR_eq (xs : List (Int × Int)) : valsOf (xs.map rO2) = some (xs.map rD) := by
  have : xs.map rO2 = (xs.map rD).map O.val := by simp
  rw [this, valsOf_val]
theorem fz_rO2 (xs : List (Int × Int)) : (O.lst (xs.map rO2)).fz = some (.list (xs.map rD)) := by
  have : xs.map rO2 = (xs.map rD).map O.val := by simp
  rw [this, fz_lst]
end K01
namespace K01
open PySem PySem.Spec PyProof.Rows L2 DL
theorem r9' (rows : List (Int × Int)) (hr : ∀ x ∈ rows, Q 60 x) (hl : rows.length ≤ 20) : s9.run [.lst (rows.map rO2)] = .ok (rO2 (sumR rows)) [] := by
  obtain ⟨z, h⟩ := sum_loop (Φ := P9) (j := 3) rfl r3 (some (lR rows)) rows 60 (0, 1) none q01 hr (by omega)
  refine sem_rt (e := [some (lR rows), some (rO2 (sumR rows)), z]) rfl ?_ rfl
  show sts P9 d_summed_b [some (.lst (rows.map rO2)), none, none] = _
  unfold d_summed_b
  rw [sts_nx (e1 := [some (.lst (rows.map rO2)), some (rO2 (0, 1)), none]) (by simp [sts, DL.st, seqS, runM, ev, evs, evP, evO, evT, evTs, evI, evF, M.bind_def, pure_ok, of_ok', slotV_v, slotP_s, pn_var, pnOf, rd_o, rd_lm, rd_s, rdv_v, rdv_l, rdAll, fz_v, O.fzAll, valsOf, toD, fzAllM, b_add, b_sub, b_mul, b_fdiv, b_mod, b_cat, c_eq, c_ne, c_eqs, c_lt, c_le, c_gt, c_ge, t_bl, it_l, g_l, g_t, k_lenT, k_lenL, k_abs, k_int, k_intb, k_max, k_min, k_str, asgD, asgAll, callM, getAll, setAll, chkSlots, chkLst, asInt, atI_0, atI_1, size2, size1]), sts_nx (e1 := [some (lR rows), some (rO2 (sumR rows)), z]) ?_]
  · simp [sts, DL.st, seqS, runM, ev, evs, evP, evO, evT, evTs, evI, evF, M.bind_def, pure_ok, of_ok', slotV_v, slotP_s, pn_var, pnOf, rd_o, rd_lm, rd_s, rdv_v, rdv_l, rdAll, fz_v, O.fzAll, valsOf, toD, fzAllM, b_add, b_sub, b_mul, b_fdiv, b_mod, b_cat, c_eq, c_ne, c_eqs, c_lt, c_le, c_gt, c_ge, t_bl, it_l, g_l, g_t, k_lenT, k_lenL, k_abs, k_int, k_intb, k_max, k_min, k_str, asgD, asgAll, callM, getAll, setAll, chkSlots, chkLst, asInt, atI_0, atI_1, size2, size1]
  · rw [st_loop (e1 := [some (lR rows), some (rO2 (0, 1)), none]) (ds := rows.map rD) ?_]
    · exact h
    · have hs := slotV_f (n := 0) (e := [some (.lst (rows.map rO2)), some (rO2 (0, 1)), none]) rfl (fz_rO2 rows)
      simp only [sts, DL.st, seqS, runM, ev, evs, evP, evO, evT, evTs, evI, evF, M.bind_def, pure_ok, of_ok', slotV_v, slotP_s, pn_var, pnOf, rd_o, rd_lm, rd_s, rdv_v, rdv_l, rdAll, fz_v, O.fzAll, valsOf, toD, fzAllM, b_add, b_sub, b_mul, b_fdiv, b_mod, b_cat, c_eq, c_ne, c_eqs, c_lt, c_le, c_gt, c_ge, t_bl, it_l, g_l, g_t, k_lenT, k_lenL, k_abs, k_int, k_intb, k_max, k_min, k_str, asgD, asgAll, callM, getAll, setAll, chkSlots, chkLst, asInt, atI_0, atI_1, size2, size1]
      rw [hs]
      rfl
theorem r10 (rows more : List (Int × Int)) (hl : rows.length = more.length) (hr : ∀ x ∈ rows, Q 30 x) (hm : ∀ x ∈ more, Q 30 x) (hn : rows.length ≤ 20) : s10.run [lR rows, lR more] = .ok (rO2 (sumR (List.zipWith tms rows more))) [] := by
  have h9 := r9' (List.zipWith tms rows more) (zw_Q rows more hr hm) (by simp; omega)
  have hc := comp_tms (some (lR rows)) (some (lR more)) rows more hl hr hm
  refine sem_rt (e := [some (lR rows), some (lR more), none, none]) rfl ?_ rfl
  show sts P10 d_weighed_b [some (lR rows), some (lR more), none, none] = _
  unfold d_weighed_b
  have hI : evI P10 (.zip [(.var 0), (.var 1)]) [some (lR rows), some (lR more), none, none] = .ok (zipD (rows.map rD) (more.map rD)) [some (lR rows), some (lR more), none, none] := by
    simp [sts, DL.st, seqS, runM, ev, evs, evP, evO, evT, evTs, evI, evF, M.bind_def, pure_ok, of_ok', slotV_v, slotP_s, pn_var, pnOf, rd_o, rd_lm, rd_s, rdv_v, rdv_l, rdAll, fz_v, O.fzAll, valsOf, toD, fzAllM, b_add, b_sub, b_mul, b_fdiv, b_mod, b_cat, c_eq, c_ne, c_eqs, c_lt, c_le, c_gt, c_ge, t_bl, it_l, g_l, g_t, k_lenT, k_lenL, k_abs, k_int, k_intb, k_max, k_min, k_str, asgD, asgAll, callM, getAll, setAll, chkSlots, chkLst, asInt, atI_0, atI_1, size2, size1, zipL]
  have hC : ev P10 (.comp (.call 5 [] [(.var 2), (.var 3)]) [2, 3] (.tup [(.name 2), (.name 3)]) (.zip [(.var 0), (.var 1)]) none) [some (lR rows), some (lR more), none, none] = .ok (.lst ((List.zipWith tms rows more).map rO2)) [some (lR rows), some (lR more), none, none] := by
    show (evI _ _ >>= fun ds => _) _ = _
    rw [M.bind_ok hI]
    rw [M.bind_ok (a := (List.zipWith tms rows more).map rO2) (e' := [some (lR rows), some (lR more), none, none])]
    · show M.of (if _ then _ else _) _ = _
      rw [if_pos]
      · rfl
      · have : sizeLine = 16777216 := by decide
        simp; omega
    · unfold blockM
      simp only [isVal, List.all_cons, List.all_nil, wipeE, List.getElem?_cons_succ, List.getElem?_cons_zero, Bool.and_self, if_true, List.set_cons_succ, List.set_cons_zero, hc]
      rfl
  refine sts_rt (st_ret ?_)
  show ((chkSlots []) >>= fun _ => evs P10 _ >>= fun os => callM P10 9 [] os) _ = _
  rw [M.bind_ok (show chkSlots [] [some (lR rows), some (lR more), none, none] = .ok () [some (lR rows), some (lR more), none, none] from rfl)]
  rw [M.bind_ok (a := [O.lst ((List.zipWith tms rows more).map rO2)]) (e' := [some (lR rows), some (lR more), none, none])]
  · simp [callM, P10, getAll, setAll, h9, -List.map_zipWith]
  · show (ev P10 _ >>= fun o => _) _ = _
    rw [M.bind_ok hC]
    rfl
def txt (p : Int × Int) : Str := if p.2 = 1 then (toString p.1 : Str) else (toString p.1 : Str) ++ "/" ++ (toString p.2 : Str)
theorem len_sl {x y : Str} (h1 : x.length ≤ 4000) (h2 : y.length ≤ 4000) : (x ++ y).length ≤ sizeLine := by
  have : sizeLine = 16777216 := by decide
  rw [Str.length_append]; omega
theorem slash_len : (("/" : String) : Str).length = 1 := rfl
theorem r11 {k : Nat} (p : Int × Int) (h : Q k p) (hk : k ≤ 1900) : s11.run [rO2 p] = .ok (.val (.str (txt p))) [] := by
  have h1 := h.n.lg hk
  have h2 := h.d.lg hk
  have h1' : p.1.natAbs.log2 < 1920 := by omega
  have h2' : p.2.natAbs.log2 < 1920 := by omega
  have l1 := int_len h1'
  have l2 := int_len h2'
  refine sem_rt (e := [some (rO2 p)]) rfl ?_ rfl
  show sts P11 d_ratio_text_b [some (rO2 p)] = _
  unfold d_ratio_text_b txt
  have g1 : ((toString p.1 : Str)).length ≤ sizeLine := by
    have : sizeLine = 16777216 := by decide
    omega
  have g2 : ((toString p.1 : Str) ++ ("/" : String)).length ≤ sizeLine := len_sl (by omega) (by rw [slash_len]; decide)
  have g3 : ((toString p.1 : Str) ++ ("/" : String) ++ (toString p.2 : Str)).length ≤ sizeLine := len_sl (by rw [Str.length_append, slash_len]; omega) (by omega)
  by_cases hz : p.2 = 1
  · simp [sts, DL.st, seqS, runM, ev, evs, evP, evO, evT, evTs, evI, evF, M.bind_def, pure_ok, of_ok', slotV_v, slotP_s, pn_var, pnOf, rd_o, rd_lm, rd_s, rdv_v, rdv_l, rdAll, fz_v, O.fzAll, valsOf, toD, fzAllM, b_add, b_sub, b_mul, b_fdiv, b_mod, b_cat, c_eq, c_ne, c_eqs, c_lt, c_le, c_gt, c_ge, t_bl, it_l, g_l, g_t, k_lenT, k_lenL, k_abs, k_int, k_intb, k_max, k_min, k_str, asgD, asgAll, callM, getAll, setAll, chkSlots, chkLst, asInt, atI_0, atI_1, size2, size1, hz, h1']
  · have g1' : (Str.ofString p.1.repr).length ≤ sizeLine := g1
    have g2' : (Str.ofString p.1.repr ++ ("/" : String)).length ≤ sizeLine := g2
    have g3' : (Str.ofString p.1.repr ++ ("/" : String) ++ Str.ofString p.2.repr).length ≤ sizeLine := g3
    simp [sts, DL.st, seqS, runM, ev, evs, evP, evO, evT, evTs, evI, evF, M.bind_def, pure_ok, of_ok', slotV_v, slotP_s, pn_var, pnOf, rd_o, rd_lm, rd_s, rdv_v, rdv_l, rdAll, fz_v, O.fzAll, valsOf, toD, fzAllM, b_add, b_sub, b_mul, b_fdiv, b_mod, b_cat, c_eq, c_ne, c_eqs, c_lt, c_le, c_gt, c_ge, t_bl, it_l, g_l, g_t, k_lenT, k_lenL, k_abs, k_int, k_intb, k_max, k_min, k_str, asgD, asgAll, callM, getAll, setAll, chkSlots, chkLst, asInt, atI_0, atI_1, size2, size1, hz, h1', h2', Str.empty_append, g1', g2', g3']
theorem r12 {o1 o2 : O} {d : PyData} (h1 : o1.fz = some d) (h2 : o2.fz = some d) (g : gd d) (hw : wt d ≤ 1000000) (hd : PyData.depth d ≤ 50) : s12.run [o1, o2] = .ok (bO true) [] := by
  have hr := repr_ok g hw hd
  refine sem_rt (e := [some (.val d), some (.val d)]) rfl ?_ rfl
  show sts P12 d_law_same_b [some o1, some o2] = _
  unfold d_law_same_b
  have e1 := slotV_f (n := 0) (e := [some o1, some o2]) rfl h1
  have e2 := slotV_f (n := 1) (e := [some (.val d), some o2]) rfl h2
  simp [sts, DL.st, seqS, runM, ev, evs, evP, evO, evT, evTs, evI, evF, M.bind_def, pure_ok, of_ok', slotV_v, slotP_s, pn_var, pnOf, rd_o, rd_lm, rd_s, rdv_v, rdv_l, rdAll, fz_v, O.fzAll, valsOf, toD, fzAllM, b_add, b_sub, b_mul, b_fdiv, b_mod, b_cat, c_eq, c_ne, c_eqs, c_lt, c_le, c_gt, c_ge, t_bl, it_l, g_l, g_t, k_lenT, k_lenL, k_abs, k_int, k_intb, k_max, k_min, k_str, asgD, asgAll, callM, getAll, setAll, chkSlots, chkLst, asInt, atI_0, atI_1, size2, size1, e1, e2, hr]
/-! ### draws -/
abbrev St (nums : List Int) (c : Int) : O := .lst [.val (.list (nums.map PyData.int)), iO c]
structure Nm (nums : List Int) : Prop where
  ne : 0 < nums.length
  le : nums.length ≤ 4000
theorem r14 {nums : List Int} {c many : Int} (hn : Nm nums) (h0 : 0 ≤ c) (hc : c ≤ 1000000) (hm : 0 < many) : ∃ r, 0 ≤ r ∧ r < many ∧ s14.run [St nums c, iO many] = .ok (iO r) [St nums (c + 1)] := by
  have hs : sizeLine = 16777216 := by decide
  have hne := hn.ne
  have hle := hn.le
  have i0 : 0 ≤ Int.fmod (c + 1) nums.length := Int.fmod_nonneg_of_pos _ (by omega)
  have i1 : Int.fmod (c + 1) nums.length < nums.length := Int.fmod_lt_of_pos _ (by omega)
  obtain ⟨j, hj⟩ : ∃ j : Nat, Int.fmod (c + 1) nums.length = j := ⟨(Int.fmod (c + 1) nums.length).toNat, by omega⟩
  have hjl : j < nums.length := by omega
  have hat : L2.atI (nums.map PyData.int) (j : Int) = some (.int nums[j]) := atI_nat (by rw [List.getElem?_map, List.getElem?_eq_getElem hjl]; rfl)
  have t0 : 0 ≤ Int.fdiv (c + 1) nums.length := Int.fdiv_nonneg (by omega) (by omega)
  have t1 : Int.fdiv (c + 1) nums.length ≤ c + 1 := Int.fdiv_le_self _ (by omega)
  generalize ht : Int.fdiv (c + 1) nums.length = t at t0 t1
  have hB : B 40 t := by unfold B; omega
  have hB2 : B 40 (c + 1) := by unfold B; omega
  have hB3 : B 40 389 := by unfold B; decide
  have hB4 : B 40 17 := by unfold B; decide
  have hlen : ((nums.length : Int)).natAbs.log2 < 9000 := by
    have : B 40 (nums.length : Int) := by unfold B; omega
    have := this.lg (by decide)
    omega
  have hln : (nums.length : Int) ≠ 0 := by omega
  have hmn : many ≠ 0 := by omega
  have hnil : nums ≠ [] := by intro z; rw [z] at hne; exact absurd hne (by decide)
  refine ⟨Int.fmod (nums[j] + t * 389 + (c + 1) * t * 17) many, Int.fmod_nonneg_of_pos _ hm, Int.fmod_lt_of_pos _ hm, ?_⟩
  refine sem_rt (e := [some (St nums (c + 1)), some (iO many), some (iO t)]) rfl ?_ rfl
  show sts P14 d_law_next_b [some (St nums c), some (iO many), none] = _
  unfold d_law_next_b
  rw [sts_nx (e1 := [some (St nums (c + 1)), some (iO many), none]) ?_, sts_nx (e1 := [some (St nums (c + 1)), some (iO many), some (iO t)]) ?_]
  · simp [sts, DL.st, seqS, runM, ev, evs, evP, evO, evT, evTs, evI, evF, M.bind_def, pure_ok, of_ok', slotV_v, slotP_s, pn_var, pnOf, rd_o, rd_lm, rd_s, rdv_v, rdv_l, rdAll, fz_v, O.fzAll, valsOf, toD, fzAllM, b_add, b_sub, b_mul, b_fdiv, b_mod, b_cat, c_eq, c_ne, c_eqs, c_lt, c_le, c_gt, c_ge, t_bl, it_l, g_l, g_t, k_lenT, k_lenL, k_abs, k_int, k_intb, k_max, k_min, k_str, asgD, asgAll, callM, getAll, setAll, chkSlots, chkLst, asInt, atI_0, atI_1, size2, size1, hj, hat, b_mul _ _ (hB.lgm (by decide) hB3 (by decide)), b_mul _ _ (hB2.lgm (by decide) hB (by decide)), b_mul _ _ ((hB2.mul hB).lgm (by decide) hB4 (by decide)), hln, hnil, hmn, hs, show nums.length ≤ 16777216 by omega]
  · simp [sts, DL.st, seqS, runM, ev, evs, evP, evO, evT, evTs, evI, evF, M.bind_def, pure_ok, of_ok', slotV_v, slotP_s, pn_var, pnOf, rd_o, rd_lm, rd_s, rdv_v, rdv_l, rdAll, fz_v, O.fzAll, valsOf, toD, fzAllM, b_add, b_sub, b_mul, b_fdiv, b_mod, b_cat, c_eq, c_ne, c_eqs, c_lt, c_le, c_gt, c_ge, t_bl, it_l, g_l, g_t, k_lenT, k_lenL, k_abs, k_int, k_intb, k_max, k_min, k_str, asgD, asgAll, callM, getAll, setAll, chkSlots, chkLst, asInt, atI_0, atI_1, size2, size1, b_fdiv (c + 1) (nums.length : Int) ⟨hln, hlen⟩, ht, hln, hnil, hs, show nums.length ≤ 16777216 by omega, hlen]
  · simp [sts, DL.st, seqS, runM, ev, evs, evP, evO, evT, evTs, evI, evF, M.bind_def, pure_ok, of_ok', slotV_v, slotP_s, pn_var, pnOf, rd_o, rd_lm, rd_s, rdv_v, rdv_l, rdAll, fz_v, O.fzAll, valsOf, toD, fzAllM, b_add, b_sub, b_mul, b_fdiv, b_mod, b_cat, c_eq, c_ne, c_eqs, c_lt, c_le, c_gt, c_ge, t_bl, it_l, g_l, g_t, k_lenT, k_lenL, k_abs, k_int, k_intb, k_max, k_min, k_str, asgD, asgAll, callM, getAll, setAll, chkSlots, chkLst, asInt, atI_0, atI_1, size2, size1, show L2.ixN 2 1 = some 1 from by decide]
/-- a drawn ratio -/
theorem r20 {nums : List Int} {c : Int} (hn : Nm nums) (h0 : 0 ≤ c) (hc : c ≤ 900000) : ∃ p : Int × Int, Q 30 p ∧ Int.gcd p.1 p.2 = 1 ∧ s20.run [St nums c] = .ok (rO2 p) [St nums (c + 3)] := by
  obtain ⟨a, a0, a1, ha⟩ := r14 (many := 400) hn h0 (by omega) (by decide)
  obtain ⟨b, b0, b1, hb⟩ := r14 (c := c + 1) (many := 5) hn (by omega) (by omega) (by decide)
  obtain ⟨d, d0, d1, hd⟩ := r14 (c := c + 1 + 1) (many := 60) hn (by omega) (by omega) (by decide)
  have e3 : c + 1 + 1 + 1 = c + 3 := by omega
  rw [e3] at hd
  obtain ⟨m, hm, hmB⟩ : ∃ m : Int, m = (if b = 0 then 1000000 else 1) ∧ B 20 m := by
    refine ⟨_, rfl, ?_⟩
    unfold B
    split <;> decide
  have hB : B 28 ((a - 200) * m) := by
    have : B 8 (a - 200) := by unfold B; omega
    exact this.mul hmB
  have hB2 : B 28 (1 + d) := by unfold B; omega
  have hne : (1 + d) ≠ 0 := by omega
  have hr := r16 ((a - 200) * m) (1 + d) hne hB2 (by decide)
  have hmul : binD .Mult (.int (a - 200)) (.int m) = some (iO ((a - 200) * m)) := b_mul _ _ ((show B 8 (a - 200) by unfold B; omega).lgm (by decide) hmB (by decide))
  refine ⟨rat ((a - 200) * m) (1 + d), (Q.rat hB hB2 hne).mono (by decide), rat_gcd hne, ?_⟩
  refine sem_rt (e := [some (St nums (c + 3)), some (iO (a - 200))]) rfl ?_ rfl
  show sts P20 d_law_drawn_b [some (St nums c), none] = _
  unfold d_law_drawn_b
  rw [sts_nx (e1 := [some (St nums (c + 1)), some (iO (a - 200))]) ?_]
  · have hp := b_pow 10 6 (by decide)
    by_cases hz : b = 0
    · rw [if_pos hz] at hm
      subst hz hm
      simp [sts, DL.st, seqS, runM, ev, evs, evP, evO, evT, evTs, evI, evF, M.bind_def, pure_ok, of_ok', slotV_v, slotP_s, pn_var, pnOf, rd_o, rd_lm, rd_s, rdv_v, rdv_l, rdAll, fz_v, O.fzAll, valsOf, toD, fzAllM, b_add, b_sub, b_mul, b_fdiv, b_mod, b_cat, c_eq, c_ne, c_eqs, c_lt, c_le, c_gt, c_ge, t_bl, it_l, g_l, g_t, k_lenT, k_lenL, k_abs, k_int, k_intb, k_max, k_min, k_str, asgD, asgAll, callM, getAll, setAll, chkSlots, chkLst, asInt, atI_0, atI_1, size2, size1, P20, hb, hd, hp, hmul, hr]
    · rw [if_neg hz] at hm
      subst hm
      rw [Int.mul_one] at hr hmul ⊢
      simp [sts, DL.st, seqS, runM, ev, evs, evP, evO, evT, evTs, evI, evF, M.bind_def, pure_ok, of_ok', slotV_v, slotP_s, pn_var, pnOf, rd_o, rd_lm, rd_s, rdv_v, rdv_l, rdAll, fz_v, O.fzAll, valsOf, toD, fzAllM, b_add, b_sub, b_mul, b_fdiv, b_mod, b_cat, c_eq, c_ne, c_eqs, c_lt, c_le, c_gt, c_ge, t_bl, it_l, g_l, g_t, k_lenT, k_lenL, k_abs, k_int, k_intb, k_max, k_min, k_str, asgD, asgAll, callM, getAll, setAll, chkSlots, chkLst, asInt, atI_0, atI_1, size2, size1, P20, hb, hd, hp, hmul, hr, hz]
  · simp [sts, DL.st, seqS, runM, ev, evs, evP, evO, evT, evTs, evI, evF, M.bind_def, pure_ok, of_ok', slotV_v, slotP_s, pn_var, pnOf, rd_o, rd_lm, rd_s, rdv_v, rdv_l, rdAll, fz_v, O.fzAll, valsOf, toD, fzAllM, b_add, b_sub, b_mul, b_fdiv, b_mod, b_cat, c_eq, c_ne, c_eqs, c_lt, c_le, c_gt, c_ge, t_bl, it_l, g_l, g_t, k_lenT, k_lenL, k_abs, k_int, k_intb, k_max, k_min, k_str, asgD, asgAll, callM, getAll, setAll, chkSlots, chkLst, asInt, atI_0, atI_1, size2, size1, P20, ha]
end K01
namespace K01
open PySem PySem.Spec PyProof.Rows L2 DL
/-! ### the stream -/
theorem slL : sizeLine = 16777216 := by decide
theorem map_snoc (nums : List Int) (x : Int) : nums.map iO ++ [iO x] = (nums ++ [x]).map iO := by simp
/-- numbers, so many, in their slot -/
def SI (v : O) (m : Nat) (e : DEnv) : Prop := ∃ (nums : List Int) (c r k s : Option O), e = [some v, some (.lst (nums.map iO)), c, r, k, s] ∧ nums.length ≤ m
def SI1 (v : O) (m : Nat) (e : DEnv) : Prop := ∃ (nums : List Int) (c k s : Option O) (r : Int), e = [some v, some (.lst (nums.map iO)), c, some (iO r), k, s] ∧ nums.length ≤ m
def SI2 (v : O) (m : Nat) (e : DEnv) : Prop := ∃ (nums : List Int) (c k r : Option O) (s : Int), e = [some v, some (.lst (nums.map iO)), c, r, k, some (iO s)] ∧ nums.length ≤ m ∧ B 40 s
abbrev in1 : List S := [.app 1 (.op .Mod (.blt .int [(.var 3)]) (.int 1009)), .asgN 3 (.op .FloorDiv (.var 3) (.int 1009)), .cond (.v (.cmp .Eq (.var 3) (.int 0))) [.brk] []]
abbrev in2 : List S := [.asgN 5 (.op .Mod (.blt .int [(.op .Add (.op .Add (.op .Mult (.var 5) (.int 48271)) (.op .Mult (.int 7) (.var 4))) (.int 11))]) (.int 2147483647)), .app 1 (.op .Mod (.op .Mod (.blt .int [(.op .Add (.op .Mult (.var 5) (.int 69621)) (.var 4))]) (.int 2147483629)) (.int 1009))]
theorem in1_ok {v : O} {m : Nat} (hm : m ≤ 5000) (e : DEnv) (d : PyData) (h : SI1 v m e) : ∃ e1 e2, asgD (.name 4) d e = .ok () e1 ∧ ((sts P13 in1 e1 = .nx e2 ∧ SI1 v (m + 1) e2) ∨ (sts P13 in1 e1 = .bk e2 ∧ SI1 v (m + 1) e2)) := by
  obtain ⟨nums, c, k, s, r, rfl, hl⟩ := h
  have g : binD .FloorDiv (.int r) (.int 1009) = some (iO (r.fdiv 1009)) := b_fdiv _ _ (by decide)
  have g2 : binD .Mod (.int r) (.int 1009) = some (iO (r.fmod 1009)) := b_mod _ _ (by decide)
  have hs : (nums.map iO).length < sizeLine := by rw [slL, List.length_map]; omega
  refine ⟨[some v, some (.lst (nums.map iO)), c, some (iO r), some (.val d), s], [some v, some (.lst ((nums ++ [r.fmod 1009]).map iO)), c, some (iO (r.fdiv 1009)), some (.val d), s], by simp [sts, DL.st, seqS, runM, ev, evs, evP, evO, evT, evTs, evI, evF, M.bind_def, pure_ok, of_ok', slotV_v, slotP_s, pn_var, pnOf, rd_o, rd_lm, rd_s, rdv_v, rdv_l, rdAll, fz_v, O.fzAll, valsOf, toD, fzAllM, b_add, b_sub, b_mul, b_fdiv, b_mod, b_cat, c_eq, c_ne, c_eqs, c_lt, c_le, c_gt, c_ge, t_bl, it_l, g_l, g_t, k_lenT, k_lenL, k_abs, k_int, k_intb, k_max, k_min, k_str, asgD, asgAll, callM, getAll, setAll, chkSlots, chkLst, asInt, atI_0, atI_1, size2, size1], ?_⟩
  have a1 : DL.st P13 (.app 1 (.op .Mod (.blt .int [(.var 3)]) (.int 1009))) [some v, some (.lst (nums.map iO)), c, some (iO r), some (.val d), s] = .nx [some v, some (.lst ((nums ++ [r.fmod 1009]).map iO)), c, some (iO r), some (.val d), s] := by
    rw [st_app (xs0 := nums.map iO) (xs := nums.map iO) (o := iO (r.fmod 1009)) (e1 := [some v, some (.lst (nums.map iO)), c, some (iO r), some (.val d), s]) rfl (by simp [sts, DL.st, seqS, runM, ev, evs, evP, evO, evT, evTs, evI, evF, M.bind_def, pure_ok, of_ok', slotV_v, slotP_s, pn_var, pnOf, rd_o, rd_lm, rd_s, rdv_v, rdv_l, rdAll, fz_v, O.fzAll, valsOf, toD, fzAllM, b_add, b_sub, b_mul, b_fdiv, b_mod, b_cat, c_eq, c_ne, c_eqs, c_lt, c_le, c_gt, c_ge, t_bl, it_l, g_l, g_t, k_lenT, k_lenL, k_abs, k_int, k_intb, k_max, k_min, k_str, asgD, asgAll, callM, getAll, setAll, chkSlots, chkLst, asInt, atI_0, atI_1, size2, size1, g2]) rfl hs, map_snoc]
    rfl
  have a2 : DL.st P13 (.asgN 3 (.op .FloorDiv (.var 3) (.int 1009))) [some v, some (.lst ((nums ++ [r.fmod 1009]).map iO)), c, some (iO r), some (.val d), s] = .nx [some v, some (.lst ((nums ++ [r.fmod 1009]).map iO)), c, some (iO (r.fdiv 1009)), some (.val d), s] := by
    simp [sts, DL.st, seqS, runM, ev, evs, evP, evO, evT, evTs, evI, evF, M.bind_def, pure_ok, of_ok', slotV_v, slotP_s, pn_var, pnOf, rd_o, rd_lm, rd_s, rdv_v, rdv_l, rdAll, fz_v, O.fzAll, valsOf, toD, fzAllM, b_add, b_sub, b_mul, b_fdiv, b_mod, b_cat, c_eq, c_ne, c_eqs, c_lt, c_le, c_gt, c_ge, t_bl, it_l, g_l, g_t, k_lenT, k_lenL, k_abs, k_int, k_intb, k_max, k_min, k_str, asgD, asgAll, callM, getAll, setAll, chkSlots, chkLst, asInt, atI_0, atI_1, size2, size1, g]
  have hlen : (nums ++ [r.fmod 1009]).length ≤ m + 1 := by simp; omega
  by_cases hz : r.fdiv 1009 = 0
  · refine .inr ⟨?_, _, _, _, _, _, rfl, hlen⟩
    rw [sts_nx a1, sts_nx a2]
    refine sts_bk ?_
    rw [hz]
    simp [sts, DL.st, seqS, runM, ev, evs, evP, evO, evT, evTs, evI, evF, M.bind_def, pure_ok, of_ok', slotV_v, slotP_s, pn_var, pnOf, rd_o, rd_lm, rd_s, rdv_v, rdv_l, rdAll, fz_v, O.fzAll, valsOf, toD, fzAllM, b_add, b_sub, b_mul, b_fdiv, b_mod, b_cat, c_eq, c_ne, c_eqs, c_lt, c_le, c_gt, c_ge, t_bl, it_l, g_l, g_t, k_lenT, k_lenL, k_abs, k_int, k_intb, k_max, k_min, k_str, asgD, asgAll, callM, getAll, setAll, chkSlots, chkLst, asInt, atI_0, atI_1, size2, size1]
  · refine .inl ⟨?_, _, _, _, _, _, rfl, hlen⟩
    rw [sts_nx a1, sts_nx a2]
    simp [sts, DL.st, seqS, runM, ev, evs, evP, evO, evT, evTs, evI, evF, M.bind_def, pure_ok, of_ok', slotV_v, slotP_s, pn_var, pnOf, rd_o, rd_lm, rd_s, rdv_v, rdv_l, rdAll, fz_v, O.fzAll, valsOf, toD, fzAllM, b_add, b_sub, b_mul, b_fdiv, b_mod, b_cat, c_eq, c_ne, c_eqs, c_lt, c_le, c_gt, c_ge, t_bl, it_l, g_l, g_t, k_lenT, k_lenL, k_abs, k_int, k_intb, k_max, k_min, k_str, asgD, asgAll, callM, getAll, setAll, chkSlots, chkLst, asInt, atI_0, atI_1, size2, size1, hz]
theorem in2_ok {v : O} {m : Nat} (hm : m ≤ 5000) (e : DEnv) (k : Int) (hk : B 40 k) (h : SI2 v m e) : ∃ e1 e2, asgD (.name 4) (.int k) e = .ok () e1 ∧ sts P13 in2 e1 = .nx e2 ∧ SI2 v (m + 1) e2 := by
  obtain ⟨nums, c, k0, r, s, rfl, hl, hB⟩ := h
  have b1 : B 40 48271 := by unfold B; decide
  have b2 : B 40 7 := by unfold B; decide
  have b3 : B 40 69621 := by unfold B; decide
  have g1 := b_mul _ _ (hB.lgm (by decide) b1 (by decide))
  have g2 := b_mul _ _ (b2.lgm (by decide) hk (by decide))
  generalize hs' : Int.fmod (s * 48271 + 7 * k + 11) 2147483647 = s'
  have s0 : 0 ≤ s' := by rw [← hs']; exact Int.fmod_nonneg_of_pos _ (by decide)
  have s1 : s' < 2147483647 := by rw [← hs']; exact Int.fmod_lt_of_pos _ (by decide)
  have hB' : B 40 s' := by unfold B; omega
  have g3 := b_mul _ _ (hB'.lgm (by decide) b3 (by decide))
  have hs : (nums.map iO).length < sizeLine := by rw [slL, List.length_map]; omega
  generalize hx : Int.fmod (Int.fmod (s' * 69621 + k) 2147483629) 1009 = x
  have a1 : DL.st P13 (.asgN 5 (.op .Mod (.blt .int [(.op .Add (.op .Add (.op .Mult (.var 5) (.int 48271)) (.op .Mult (.int 7) (.var 4))) (.int 11))]) (.int 2147483647))) [some v, some (.lst (nums.map iO)), c, r, some (iO k), some (iO s)] = .nx [some v, some (.lst (nums.map iO)), c, r, some (iO k), some (iO s')] := by
    simp [sts, DL.st, seqS, runM, ev, evs, evP, evO, evT, evTs, evI, evF, M.bind_def, pure_ok, of_ok', slotV_v, slotP_s, pn_var, pnOf, rd_o, rd_lm, rd_s, rdv_v, rdv_l, rdAll, fz_v, O.fzAll, valsOf, toD, fzAllM, b_add, b_sub, b_mul, b_fdiv, b_mod, b_cat, c_eq, c_ne, c_eqs, c_lt, c_le, c_gt, c_ge, t_bl, it_l, g_l, g_t, k_lenT, k_lenL, k_abs, k_int, k_intb, k_max, k_min, k_str, asgD, asgAll, callM, getAll, setAll, chkSlots, chkLst, asInt, atI_0, atI_1, size2, size1, g1, g2, hs']
  have a2 : DL.st P13 (.app 1 (.op .Mod (.op .Mod (.blt .int [(.op .Add (.op .Mult (.var 5) (.int 69621)) (.var 4))]) (.int 2147483629)) (.int 1009))) [some v, some (.lst (nums.map iO)), c, r, some (iO k), some (iO s')] = .nx [some v, some (.lst ((nums ++ [x]).map iO)), c, r, some (iO k), some (iO s')] := by
    rw [st_app (xs0 := nums.map iO) (xs := nums.map iO) (o := iO x) (e1 := [some v, some (.lst (nums.map iO)), c, r, some (iO k), some (iO s')]) rfl (by simp [sts, DL.st, seqS, runM, ev, evs, evP, evO, evT, evTs, evI, evF, M.bind_def, pure_ok, of_ok', slotV_v, slotP_s, pn_var, pnOf, rd_o, rd_lm, rd_s, rdv_v, rdv_l, rdAll, fz_v, O.fzAll, valsOf, toD, fzAllM, b_add, b_sub, b_mul, b_fdiv, b_mod, b_cat, c_eq, c_ne, c_eqs, c_lt, c_le, c_gt, c_ge, t_bl, it_l, g_l, g_t, k_lenT, k_lenL, k_abs, k_int, k_intb, k_max, k_min, k_str, asgD, asgAll, callM, getAll, setAll, chkSlots, chkLst, asInt, atI_0, atI_1, size2, size1, g3, hx]) rfl hs, map_snoc]
    rfl
  refine ⟨[some v, some (.lst (nums.map iO)), c, r, some (iO k), some (iO s)], [some v, some (.lst ((nums ++ [x]).map iO)), c, r, some (iO k), some (iO s')], by simp [sts, DL.st, seqS, runM, ev, evs, evP, evO, evT, evTs, evI, evF, M.bind_def, pure_ok, of_ok', slotV_v, slotP_s, pn_var, pnOf, rd_o, rd_lm, rd_s, rdv_v, rdv_l, rdAll, fz_v, O.fzAll, valsOf, toD, fzAllM, b_add, b_sub, b_mul, b_fdiv, b_mod, b_cat, c_eq, c_ne, c_eqs, c_lt, c_le, c_gt, c_ge, t_bl, it_l, g_l, g_t, k_lenT, k_lenL, k_abs, k_int, k_intb, k_max, k_min, k_str, asgD, asgAll, callM, getAll, setAll, chkSlots, chkLst, asInt, atI_0, atI_1, size2, size1], by rw [sts_nx a1, sts_nx a2]; rfl, _, _, _, _, _, rfl, by simp; omega, hB'⟩
abbrev outB : List S := [.asgN 3 (.blt .abs [(.blt .int [(.var 2)])]),
  .cond (.v (.cmp .GtE (.var 3) (.op .Pow (.int 10) (.int 18)))) [.loop (.name 4) (.rng1 (.int 60)) in1] [.asgN 5 (.op .Mod (.blt .int [(.var 3)]) (.int 2147483647)),
  .loop (.name 4) (.rng1 (.int 10)) in2]]
theorem out_ok {v : O} {m : Nat} (hm : m ≤ 4900) (e : DEnv) (n : Int) (h : SI v m e) : ∃ e1 e2, asgD (.name 2) (.int n) e = .ok () e1 ∧ sts P13 outB e1 = .nx e2 ∧ SI v (m + 60) e2 := by
  obtain ⟨nums, c, r, k, s, rfl, hl⟩ := h
  have hp := b_pow 10 18 (by decide)
  have e18 : (10 : Int) ^ Int.toNat 18 = 1000000000000000000 := by decide
  rw [e18] at hp
  have a1 : DL.st P13 (.asgN 3 (.blt .abs [(.blt .int [(.var 2)])])) [some v, some (.lst (nums.map iO)), some (iO n), r, k, s] = .nx [some v, some (.lst (nums.map iO)), some (iO n), some (iO n.natAbs), k, s] := by
    simp [sts, DL.st, seqS, runM, ev, evs, evP, evO, evT, evTs, evI, evF, M.bind_def, pure_ok, of_ok', slotV_v, slotP_s, pn_var, pnOf, rd_o, rd_lm, rd_s, rdv_v, rdv_l, rdAll, fz_v, O.fzAll, valsOf, toD, fzAllM, b_add, b_sub, b_mul, b_fdiv, b_mod, b_cat, c_eq, c_ne, c_eqs, c_lt, c_le, c_gt, c_ge, t_bl, it_l, g_l, g_t, k_lenT, k_lenL, k_abs, k_int, k_intb, k_max, k_min, k_str, asgD, asgAll, callM, getAll, setAll, chkSlots, chkLst, asInt, atI_0, atI_1, size2, size1, abs_nat]
  generalize hr : (n.natAbs : Int) = R at a1
  by_cases hz : 1000000000000000000 ≤ R
  · obtain ⟨e', h1, h2⟩ := for_inv (fs := asgD (.name 4)) (body := sts P13 in1) (fun i e => SI1 v (m + i) e) (fun e => SI1 v (m + 60) e) (range1 0 60) 0 [some v, some (.lst (nums.map iO)), some (iO n), some (iO R), k, s] ⟨_, _, _, _, _, rfl, hl⟩ fun i d e hd hi => by
      have hr := range1_inv hd
      rw [Nat.zero_add] at hi ⊢
      obtain ⟨e1, e2, q1, q2⟩ := in1_ok (by omega) e d hi
      refine ⟨e1, e2, q1, q2.imp (fun q => ⟨q.1, q.2⟩) fun q => ⟨q.1, ?_⟩⟩
      obtain ⟨nums, c, k, s, r, rfl, hl⟩ := q.2
      exact ⟨nums, c, k, s, r, rfl, by omega⟩
    have h3 : SI1 v (m + 60) e' := by
      have hl60 : (range1 0 60).length = 60 := by simp [range1]
      rcases h2 with h2 | h2
      · rw [hl60] at h2; simpa using h2
      · exact h2
    refine ⟨_, e', show asgD (.name 2) (.int n) _ = .ok () [some v, some (.lst (nums.map iO)), some (iO n), r, k, s] by simp [sts, DL.st, seqS, runM, ev, evs, evP, evO, evT, evTs, evI, evF, M.bind_def, pure_ok, of_ok', slotV_v, slotP_s, pn_var, pnOf, rd_o, rd_lm, rd_s, rdv_v, rdv_l, rdAll, fz_v, O.fzAll, valsOf, toD, fzAllM, b_add, b_sub, b_mul, b_fdiv, b_mod, b_cat, c_eq, c_ne, c_eqs, c_lt, c_le, c_gt, c_ge, t_bl, it_l, g_l, g_t, k_lenT, k_lenL, k_abs, k_int, k_intb, k_max, k_min, k_str, asgD, asgAll, callM, getAll, setAll, chkSlots, chkLst, asInt, atI_0, atI_1, size2, size1], ?_, ?_⟩
    · rw [sts_nx a1]
      refine (sts_nx (e1 := e') ?_).trans rfl
      rw [st_true (e1 := [some v, some (.lst (nums.map iO)), some (iO n), some (iO R), k, s]) (by simp [sts, DL.st, seqS, runM, ev, evs, evP, evO, evT, evTs, evI, evF, M.bind_def, pure_ok, of_ok', slotV_v, slotP_s, pn_var, pnOf, rd_o, rd_lm, rd_s, rdv_v, rdv_l, rdAll, fz_v, O.fzAll, valsOf, toD, fzAllM, b_add, b_sub, b_mul, b_fdiv, b_mod, b_cat, c_eq, c_ne, c_eqs, c_lt, c_le, c_gt, c_ge, t_bl, it_l, g_l, g_t, k_lenT, k_lenL, k_abs, k_int, k_intb, k_max, k_min, k_str, asgD, asgAll, callM, getAll, setAll, chkSlots, chkLst, asInt, atI_0, atI_1, size2, size1, hp, hz])]
      refine (sts_nx (e1 := e') ?_).trans rfl
      rw [st_loop (ds := range1 0 60) (e1 := [some v, some (.lst (nums.map iO)), some (iO n), some (iO R), k, s]) (by simp [sts, DL.st, seqS, runM, ev, evs, evP, evO, evT, evTs, evI, evF, M.bind_def, pure_ok, of_ok', slotV_v, slotP_s, pn_var, pnOf, rd_o, rd_lm, rd_s, rdv_v, rdv_l, rdAll, fz_v, O.fzAll, valsOf, toD, fzAllM, b_add, b_sub, b_mul, b_fdiv, b_mod, b_cat, c_eq, c_ne, c_eqs, c_lt, c_le, c_gt, c_ge, t_bl, it_l, g_l, g_t, k_lenT, k_lenL, k_abs, k_int, k_intb, k_max, k_min, k_str, asgD, asgAll, callM, getAll, setAll, chkSlots, chkLst, asInt, atI_0, atI_1, size2, size1, rngD1])]
      exact h1
    · obtain ⟨nums, c, k, s, r, rfl, hl⟩ := h3
      exact ⟨_, _, _, _, _, rfl, hl⟩
  · generalize hs' : Int.fmod R 2147483647 = s'
    have s0 : 0 ≤ s' := by rw [← hs']; exact Int.fmod_nonneg_of_pos _ (by decide)
    have s1 : s' < 2147483647 := by rw [← hs']; exact Int.fmod_lt_of_pos _ (by decide)
    have hB' : B 40 s' := by unfold B; omega
    obtain ⟨e', h1, h2⟩ := for_inv (fs := asgD (.name 4)) (body := sts P13 in2) (fun i e => SI2 v (m + i) e) (fun e => False) (range1 0 10) 0 [some v, some (.lst (nums.map iO)), some (iO n), some (iO R), k, some (iO s')] ⟨_, _, _, _, _, rfl, hl, hB'⟩ fun i d e hd hi => by
      obtain ⟨hr, rfl⟩ := range1_inv hd
      rw [Nat.zero_add] at hi ⊢
      obtain ⟨e1, e2, q1, q2, q3⟩ := in2_ok (by omega) e (0 + i) (by unfold B; omega) hi
      exact ⟨e1, e2, q1, .inl ⟨q2, q3⟩⟩
    have h3 : SI2 v (m + 10) e' := by
      have hl60 : (range1 0 10).length = 10 := by simp [range1]
      rcases h2 with h2 | h2
      · rw [hl60] at h2; simpa using h2
      · exact h2.elim
    refine ⟨_, e', show asgD (.name 2) (.int n) _ = .ok () [some v, some (.lst (nums.map iO)), some (iO n), r, k, s] by simp [sts, DL.st, seqS, runM, ev, evs, evP, evO, evT, evTs, evI, evF, M.bind_def, pure_ok, of_ok', slotV_v, slotP_s, pn_var, pnOf, rd_o, rd_lm, rd_s, rdv_v, rdv_l, rdAll, fz_v, O.fzAll, valsOf, toD, fzAllM, b_add, b_sub, b_mul, b_fdiv, b_mod, b_cat, c_eq, c_ne, c_eqs, c_lt, c_le, c_gt, c_ge, t_bl, it_l, g_l, g_t, k_lenT, k_lenL, k_abs, k_int, k_intb, k_max, k_min, k_str, asgD, asgAll, callM, getAll, setAll, chkSlots, chkLst, asInt, atI_0, atI_1, size2, size1], ?_, ?_⟩
    · rw [sts_nx a1]
      refine (sts_nx (e1 := e') ?_).trans rfl
      rw [st_false (e1 := [some v, some (.lst (nums.map iO)), some (iO n), some (iO R), k, s]) (by simp [sts, DL.st, seqS, runM, ev, evs, evP, evO, evT, evTs, evI, evF, M.bind_def, pure_ok, of_ok', slotV_v, slotP_s, pn_var, pnOf, rd_o, rd_lm, rd_s, rdv_v, rdv_l, rdAll, fz_v, O.fzAll, valsOf, toD, fzAllM, b_add, b_sub, b_mul, b_fdiv, b_mod, b_cat, c_eq, c_ne, c_eqs, c_lt, c_le, c_gt, c_ge, t_bl, it_l, g_l, g_t, k_lenT, k_lenL, k_abs, k_int, k_intb, k_max, k_min, k_str, asgD, asgAll, callM, getAll, setAll, chkSlots, chkLst, asInt, atI_0, atI_1, size2, size1, hp, hz])]
      rw [sts_nx (e1 := [some v, some (.lst (nums.map iO)), some (iO n), some (iO R), k, some (iO s')]) (by simp [sts, DL.st, seqS, runM, ev, evs, evP, evO, evT, evTs, evI, evF, M.bind_def, pure_ok, of_ok', slotV_v, slotP_s, pn_var, pnOf, rd_o, rd_lm, rd_s, rdv_v, rdv_l, rdAll, fz_v, O.fzAll, valsOf, toD, fzAllM, b_add, b_sub, b_mul, b_fdiv, b_mod, b_cat, c_eq, c_ne, c_eqs, c_lt, c_le, c_gt, c_ge, t_bl, it_l, g_l, g_t, k_lenT, k_lenL, k_abs, k_int, k_intb, k_max, k_min, k_str, asgD, asgAll, callM, getAll, setAll, chkSlots, chkLst, asInt, atI_0, atI_1, size2, size1, hs'])]
      refine (sts_nx (e1 := e') ?_).trans rfl
      rw [st_loop (ds := range1 0 10) (e1 := [some v, some (.lst (nums.map iO)), some (iO n), some (iO R), k, some (iO s')]) (by simp [sts, DL.st, seqS, runM, ev, evs, evP, evO, evT, evTs, evI, evF, M.bind_def, pure_ok, of_ok', slotV_v, slotP_s, pn_var, pnOf, rd_o, rd_lm, rd_s, rdv_v, rdv_l, rdAll, fz_v, O.fzAll, valsOf, toD, fzAllM, b_add, b_sub, b_mul, b_fdiv, b_mod, b_cat, c_eq, c_ne, c_eqs, c_lt, c_le, c_gt, c_ge, t_bl, it_l, g_l, g_t, k_lenT, k_lenL, k_abs, k_int, k_intb, k_max, k_min, k_str, asgD, asgAll, callM, getAll, setAll, chkSlots, chkLst, asInt, atI_0, atI_1, size2, size1, rngD1])]
      exact h1
    · obtain ⟨nums, c, k, s, r, rfl, hl, _⟩ := h3
      exact ⟨_, _, _, _, _, rfl, by omega⟩
theorem r13 (ns : List Int) : ∃ nums, Nm nums ∧ s13.run [.val (.list (ns.map PyData.int))] = .ok (.val (.list (nums.map PyData.int))) [] := by
  obtain ⟨v, hv⟩ : ∃ v : O, v = .val (.list (ns.map PyData.int)) := ⟨_, rfl⟩
  have hcut : cutL (ns.map PyData.int) none (some 63) = (ns.take 63).map PyData.int := by
    unfold cutL
    rw [show HT.sIx (ns.map PyData.int).length (ns.map PyData.int).length (some 63) = min 63 (ns.map PyData.int).length from HT.sIx_nat _ _ 63, HT.sIx_none]
    simp [List.map_take]
  obtain ⟨e', h1, h2⟩ := for_inv (fs := asgD (.name 2)) (body := sts P13 outB) (fun i e => SI v (60 * i) e) (fun e => False) ((ns.take 63).map PyData.int) 0 [some v, some (.lst []), none, none, none, none] ⟨[], _, _, _, _, rfl, by simp⟩ fun i d e hd hi => by
    rw [List.getElem?_map] at hd
    have hi63 : i < 63 := by
      apply Classical.byContradiction
      intro z
      rw [List.getElem?_eq_none (by simp; omega)] at hd
      cases hd
    obtain ⟨n, hn, rfl⟩ := Option.map_eq_some_iff.mp hd
    rw [Nat.zero_add] at hi ⊢
    obtain ⟨e1, e2, q1, q2, q3⟩ := out_ok (by omega) e n hi
    exact ⟨e1, e2, q1, .inl ⟨q2, by rw [show 60 * (i + 1) = 60 * i + 60 by omega]; exact q3⟩⟩
  have h3 : SI v 3780 e' := by
    rcases h2 with h2 | h2
    · obtain ⟨nums, c, r, k, s, rfl, hl⟩ := h2
      refine ⟨_, _, _, _, _, rfl, Nat.le_trans hl ?_⟩
      simp; omega
    · exact h2.elim
  obtain ⟨nums, c, r, k, s, rfl, hl⟩ := h3
  have hloop : DL.st P13 (.loop (.name 2) (.it (.cut (.var 0) none (some (.int 63)))) outB) [some v, some (.lst []), none, none, none, none] = .nx [some v, some (.lst (nums.map iO)), c, r, k, s] := by
    rw [st_loop (ds := (ns.take 63).map PyData.int) (e1 := [some v, some (.lst []), none, none, none, none]) ?_]
    · exact h1
    · subst hv
      simp [sts, DL.st, seqS, runM, ev, evs, evP, evO, evT, evTs, evI, evF, M.bind_def, pure_ok, of_ok', slotV_v, slotP_s, pn_var, pnOf, rd_o, rd_lm, rd_s, rdv_v, rdv_l, rdAll, fz_v, O.fzAll, valsOf, toD, fzAllM, b_add, b_sub, b_mul, b_fdiv, b_mod, b_cat, c_eq, c_ne, c_eqs, c_lt, c_le, c_gt, c_ge, t_bl, it_l, g_l, g_t, k_lenT, k_lenL, k_abs, k_int, k_intb, k_max, k_min, k_str, asgD, asgAll, callM, getAll, setAll, chkSlots, chkLst, asInt, atI_0, atI_1, size2, size1, DL.cutD, hcut, fz_lst, -List.map_map, -List.map_take]
  have hv0 : ∀ xs : List Int, valsOf (xs.map iO) = some (xs.map PyData.int) := fun xs => by
    have : xs.map iO = (xs.map PyData.int).map O.val := by simp
    rw [this, valsOf_val]
  have hf0 : ∀ xs : List Int, (O.lst (xs.map iO)).fz = some (.list (xs.map PyData.int)) := fun xs => by
    have : xs.map iO = (xs.map PyData.int).map O.val := by simp
    rw [this, fz_lst]
  have fin : ∀ xs : List Int, DL.st P13 (.ret (.var 1)) [some v, some (.lst (xs.map iO)), c, r, k, s] = .rt (.val (.list (xs.map PyData.int))) [some v, some (.val (.list (xs.map PyData.int))), c, r, k, s] := fun xs => st_ret (slotV_f (n := 1) rfl (hf0 xs))
  have hs : nums.length ≤ sizeLine := by rw [slL]; omega
  by_cases hz : nums = []
  · refine ⟨[0], ⟨by decide, by decide⟩, sem_rt (e := [some v, some (.val (.list ([0].map PyData.int))), c, r, k, s]) rfl ?_ rfl⟩
    subst hv
    show sts P13 d_law_stream_b [some (.val (.list (ns.map PyData.int))), none, none, none, none, none] = _
    unfold d_law_stream_b
    rw [sts_nx (e1 := [some (.val (.list (ns.map PyData.int))), some (.lst []), none, none, none, none]) (by simp [sts, DL.st, seqS, runM, ev, evs, evP, evO, evT, evTs, evI, evF, M.bind_def, pure_ok, of_ok', slotV_v, slotP_s, pn_var, pnOf, rd_o, rd_lm, rd_s, rdv_v, rdv_l, rdAll, fz_v, O.fzAll, valsOf, toD, fzAllM, b_add, b_sub, b_mul, b_fdiv, b_mod, b_cat, c_eq, c_ne, c_eqs, c_lt, c_le, c_gt, c_ge, t_bl, it_l, g_l, g_t, k_lenT, k_lenL, k_abs, k_int, k_intb, k_max, k_min, k_str, asgD, asgAll, callM, getAll, setAll, chkSlots, chkLst, asInt, atI_0, atI_1, size2, size1, show 0 ≤ sizeLine from Nat.zero_le _]), sts_nx hloop, sts_nx (e1 := [some (.val (.list (ns.map PyData.int))), some (.lst ([0].map iO)), c, r, k, s]) ?_, sts_rt (fin [0])]
    subst hz
    have : 0 < sizeLine := by decide
    simp [sts, DL.st, seqS, runM, ev, evs, evP, evO, evT, evTs, evI, evF, M.bind_def, pure_ok, of_ok', slotV_v, slotP_s, pn_var, pnOf, rd_o, rd_lm, rd_s, rdv_v, rdv_l, rdAll, fz_v, O.fzAll, valsOf, toD, fzAllM, b_add, b_sub, b_mul, b_fdiv, b_mod, b_cat, c_eq, c_ne, c_eqs, c_lt, c_le, c_gt, c_ge, t_bl, it_l, g_l, g_t, k_lenT, k_lenL, k_abs, k_int, k_intb, k_max, k_min, k_str, asgD, asgAll, callM, getAll, setAll, chkSlots, chkLst, asInt, atI_0, atI_1, size2, size1, this]
  · have hp : 0 < nums.length := by
      cases nums with
      | nil => exact absurd rfl hz
      | cons => simp
    refine ⟨nums, ⟨hp, by omega⟩, sem_rt (e := [some v, some (.val (.list (nums.map PyData.int))), c, r, k, s]) rfl ?_ rfl⟩
    subst hv
    show sts P13 d_law_stream_b [some (.val (.list (ns.map PyData.int))), none, none, none, none, none] = _
    unfold d_law_stream_b
    rw [sts_nx (e1 := [some (.val (.list (ns.map PyData.int))), some (.lst []), none, none, none, none]) (by simp [sts, DL.st, seqS, runM, ev, evs, evP, evO, evT, evTs, evI, evF, M.bind_def, pure_ok, of_ok', slotV_v, slotP_s, pn_var, pnOf, rd_o, rd_lm, rd_s, rdv_v, rdv_l, rdAll, fz_v, O.fzAll, valsOf, toD, fzAllM, b_add, b_sub, b_mul, b_fdiv, b_mod, b_cat, c_eq, c_ne, c_eqs, c_lt, c_le, c_gt, c_ge, t_bl, it_l, g_l, g_t, k_lenT, k_lenL, k_abs, k_int, k_intb, k_max, k_min, k_str, asgD, asgAll, callM, getAll, setAll, chkSlots, chkLst, asInt, atI_0, atI_1, size2, size1, show 0 ≤ sizeLine from Nat.zero_le _]), sts_nx hloop, sts_nx (e1 := [some (.val (.list (ns.map PyData.int))), some (.lst (nums.map iO)), c, r, k, s]) ?_, sts_rt (fin nums)]
    have hvn := hv0 nums
    have hk := k_lenL (nums.map PyData.int) (by simpa using hs)
    rw [st_false (e1 := [some (.val (.list (ns.map PyData.int))), some (.lst (nums.map iO)), c, r, k, s])]
    · rfl
    · simp [sts, DL.st, seqS, runM, ev, evs, evP, evO, evT, evTs, evI, evF, M.bind_def, pure_ok, of_ok', slotV_v, slotP_s, pn_var, pnOf, rd_o, rd_lm, rd_s, rdv_v, rdv_l, rdAll, fz_v, O.fzAll, valsOf, toD, fzAllM, b_add, b_sub, b_mul, b_fdiv, b_mod, b_cat, c_eq, c_ne, c_eqs, c_lt, c_le, c_gt, c_ge, t_bl, it_l, g_l, g_t, k_lenT, k_lenL, k_abs, k_int, k_intb, k_max, k_min, k_str, asgD, asgAll, callM, getAll, setAll, chkSlots, chkLst, asInt, atI_0, atI_1, size2, size1, hvn, hk, hz]
end K01
namespace K01
open PySem PySem.Spec PyProof.Rows L2 DL
/-! ### the law's own lines -/
abbrev kB : List S := [.asgN 10 (.idx (.lst [(.var 10), (.idx (.var 7) (.var 12))]) (.blt .int [(.call 19 [] [(.var 10), (.idx (.var 7) (.var 12))])])), .asgN 11 (.call 17 [] [(.var 11), (.call 16 [] [(.op .Mult (.idx (.idx (.var 7) (.var 12)) (.int 0)) (.idx (.idx (.var 8) (.var 12)) (.int 0))), (.op .Mult (.idx (.idx (.var 7) (.var 12)) (.int 1)) (.idx (.idx (.var 8) (.var 12)) (.int 1)))])])]
abbrev t1 : S := .asgN 3 (.op .Sub (.call 14 [1] [(.int 900)]) (.int 450))
abbrev t2 : S := .asgN 4 (.idx (.lst [(.op .Add (.int 1) (.call 14 [1] [(.int 80)])), (.op .Sub (.op .Sub (.int 0) (.int 1)) (.call 14 [1] [(.int 80)]))]) (.call 14 [1] [(.int 2)]))
abbrev t3 : S := .asgN 5 (.call 20 [1] [])
abbrev t4 : S := .asgN 6 (.call 20 [1] [])
abbrev t5 : S := .asgN 7 (.comp (.call 20 [1] []) [12] (.name 12) (.rng1 (.op .Add (.int 1) (.call 14 [1] [(.int 5)]))) none)
abbrev t6 : S := .asgN 8 (.comp (.call 20 [1] []) [14] (.name 14) (.it (.var 7)) none)
abbrev t7 : S := .cond (.no (.v (.call 12 [] [(.lst [(.call 1 [] [(.var 3), (.var 4)]), (.call 2 [] [(.var 5)]), (.call 2 [] [(.tup [(.op .Mult (.int 2) (.idx (.var 5) (.int 0))), (.op .Mult (.int 2) (.idx (.var 5) (.int 1)))])]), (.call 2 [] [(.tup [(.int 1), (.int 0)])]), (.call 2 [] [(.tup [(.int 3), (.neg (.int 1))])])]), (.lst [(.call 16 [] [(.var 3), (.var 4)]), (.bl true), (.bl false), (.bl false), (.bl false)])]))) [.ret (.bl false)] []
abbrev t8 : S := .asgN 9 (.lst [(.call 17 [] [(.var 5), (.var 6)]), (.tup [(.op .Sub (.int 0) (.idx (.var 5) (.int 0))), (.idx (.var 5) (.int 1))]), (.call 16 [] [(.op .Mult (.idx (.var 5) (.int 0)) (.idx (.var 6) (.int 0))), (.op .Mult (.idx (.var 5) (.int 1)) (.idx (.var 6) (.int 1)))]), (.call 19 [] [(.var 5), (.var 6)])])
abbrev t9 : S := .cond (.no (.v (.call 12 [] [(.lst [(.call 3 [] [(.var 5), (.var 6)]), (.call 4 [] [(.var 5)]), (.call 5 [] [(.var 5), (.var 6)]), (.call 7 [] [(.var 5), (.var 6)])]), (.var 9)]))) [.ret (.bl false)] []
abbrev t10 : S := .cond (.and (.v (.cmp .NotEq (.idx (.var 6) (.int 0)) (.int 0))) (.no (.v (.call 12 [] [(.call 6 [] [(.var 5), (.var 6)]), (.call 16 [] [(.op .Mult (.idx (.var 5) (.int 0)) (.idx (.var 6) (.int 1))), (.op .Mult (.idx (.var 5) (.int 1)) (.idx (.var 6) (.int 0)))])])))) [.ret (.bl false)] []
abbrev t11 : S := .asgN 10 (.idx (.var 7) (.int 0))
abbrev t12 : S := .asgN 11 (.tup [(.int 0), (.int 1)])
abbrev t13 : S := .loop (.name 12) (.rng1 (.blt .len [(.var 7)])) [.asgN 10 (.idx (.lst [(.var 10), (.idx (.var 7) (.var 12))]) (.blt .int [(.call 19 [] [(.var 10), (.idx (.var 7) (.var 12))])])), .asgN 11 (.call 17 [] [(.var 11), (.call 16 [] [(.op .Mult (.idx (.idx (.var 7) (.var 12)) (.int 0)) (.idx (.idx (.var 8) (.var 12)) (.int 0))), (.op .Mult (.idx (.idx (.var 7) (.var 12)) (.int 1)) (.idx (.idx (.var 8) (.var 12)) (.int 1)))])])]
abbrev t15 : S := .cond (.no (.v (.call 12 [] [(.lst [(.call 8 [] [(.var 7)]), (.call 9 [] [(.var 7)]), (.call 10 [] [(.var 7), (.var 8)])]), (.lst [(.var 10), (.call 18 [] [(.var 7)]), (.var 11)])]))) [.ret (.bl false)] []
abbrev t16 : S := .asgN 13 (.blt .str [(.idx (.var 5) (.int 0))])
abbrev t17 : S := .cond (.v (.cmp .NotEq (.idx (.var 5) (.int 1)) (.int 1))) [.asgN 13 (.op .Add (.op .Add (.var 13) (.str "/")) (.blt .str [(.idx (.var 5) (.int 1))]))] []
abbrev t18 : S := .cond (.no (.v (.call 12 [] [(.call 11 [] [(.var 5)]), (.var 13)]))) [.ret (.bl false)] []
abbrev tB : List S := [t1, t2, t3, t4, t5, t6, t7, t8, t9, t10, t11, t12, t13, t15, t16, t17, t18]
theorem law_b_eq : d_law_b = [.asgN 1 (.lst [(.call 13 [] [(.var 0)]), (.int 0)]), .loop (.name 2) (.rng1 (.int 12)) tB, .ret (.bl true)] := rfl
/-- the slots: the script, the state, the others -/
abbrev en (v st : O) (x2 x3 x4 x5 x6 x7 x8 x9 x10 x11 x12 x13 x14 : Option O) : DEnv := [some v, some st, x2, x3, x4, x5, x6, x7, x8, x9, x10, x11, x12, x13, x14]

theorem comp_dr12 {nums : List Int} (hn : Nm nums) (v : O) (x2 x3 x4 x5 x6 x7 x8 x9 x10 x11 x14 x13 : Option O) : ∀ (ds : List PyData) (c : Int), 0 ≤ c → c + 3 * ds.length ≤ 900000 → ∃ rows : List (Int × Int), rows.length = ds.length ∧ (∀ x ∈ rows, Q 30 x) ∧
    compD (asgD (.name 12)) (evTs P21 none) (ev P21 (.call 20 [1] [])) [12] ds (en v (St nums c) x2 x3 x4 x5 x6 x7 x8 x9 x10 x11 none x13 x14) = .ok (rows.map rO2) (en v (St nums (c + 3 * ds.length)) x2 x3 x4 x5 x6 x7 x8 x9 x10 x11 none x13 x14)
  | [], c, _, _ => ⟨[], rfl, by simp, by simp [compD]; rfl⟩
  | d :: ds, c, h0, hc => by
    simp only [List.length_cons] at hc
    obtain ⟨p, hp, _, h1⟩ := r20 (c := c) hn h0 (by omega)
    obtain ⟨rows, hl, hq, h2⟩ := comp_dr12 hn v x2 x3 x4 x5 x6 x7 x8 x9 x10 x11 x14 x13 ds (c + 3) (by omega) (by omega)
    refine ⟨p :: rows, by simp [hl], fun x hx => ?_, ?_⟩
    · rcases List.mem_cons.mp hx with e | e
      · rw [e]; exact hp
      · exact hq x e
    show ((asgD _ _) >>= fun _ => _) _ = _
    rw [M.bind_ok (a := ()) (e' := en v (St nums c) x2 x3 x4 x5 x6 x7 x8 x9 x10 x11 (some (.val d)) x13 x14) (by simp [sts, DL.st, seqS, runM, ev, evs, evP, evO, evT, evTs, evI, evF, M.bind_def, pure_ok, of_ok', slotV_v, slotP_s, pn_var, pnOf, rd_o, rd_lm, rd_s, rdv_v, rdv_l, rdAll, fz_v, O.fzAll, valsOf, toD, fzAllM, b_add, b_sub, b_mul, b_fdiv, b_mod, b_cat, c_eq, c_ne, c_eqs, c_lt, c_le, c_gt, c_ge, t_bl, it_l, g_l, g_t, k_lenT, k_lenL, k_abs, k_int, k_intb, k_max, k_min, k_str, asgD, asgAll, callM, getAll, setAll, chkSlots, chkLst, asInt, atI_0, atI_1, size2, size1]), M.bind_ok (a := true) (e' := en v (St nums c) x2 x3 x4 x5 x6 x7 x8 x9 x10 x11 (some (.val d)) x13 x14) (by simp [sts, DL.st, seqS, runM, ev, evs, evP, evO, evT, evTs, evI, evF, M.bind_def, pure_ok, of_ok', slotV_v, slotP_s, pn_var, pnOf, rd_o, rd_lm, rd_s, rdv_v, rdv_l, rdAll, fz_v, O.fzAll, valsOf, toD, fzAllM, b_add, b_sub, b_mul, b_fdiv, b_mod, b_cat, c_eq, c_ne, c_eqs, c_lt, c_le, c_gt, c_ge, t_bl, it_l, g_l, g_t, k_lenT, k_lenL, k_abs, k_int, k_intb, k_max, k_min, k_str, asgD, asgAll, callM, getAll, setAll, chkSlots, chkLst, asInt, atI_0, atI_1, size2, size1])]
    simp only [if_true]
    rw [M.bind_ok (a := rO2 p) (e' := en v (St nums (c + 3)) x2 x3 x4 x5 x6 x7 x8 x9 x10 x11 (some (.val d)) x13 x14) (by simp [sts, DL.st, seqS, runM, ev, evs, evP, evO, evT, evTs, evI, evF, M.bind_def, pure_ok, of_ok', slotV_v, slotP_s, pn_var, pnOf, rd_o, rd_lm, rd_s, rdv_v, rdv_l, rdAll, fz_v, O.fzAll, valsOf, toD, fzAllM, b_add, b_sub, b_mul, b_fdiv, b_mod, b_cat, c_eq, c_ne, c_eqs, c_lt, c_le, c_gt, c_ge, t_bl, it_l, g_l, g_t, k_lenT, k_lenL, k_abs, k_int, k_intb, k_max, k_min, k_str, asgD, asgAll, callM, getAll, setAll, chkSlots, chkLst, asInt, atI_0, atI_1, size2, size1, P21, h1]), M.bind_ok (a := ()) (e' := en v (St nums (c + 3)) x2 x3 x4 x5 x6 x7 x8 x9 x10 x11 none x13 x14) (by simp [wipeM, isVal, wipeE]), M.bind_ok h2]
    rw [show c + 3 * ((d :: ds).length : Int) = c + 3 + 3 * (ds.length : Int) by simp; omega]
    rfl

theorem comp_dr14 {nums : List Int} (hn : Nm nums) (v : O) (x2 x3 x4 x5 x6 x7 x8 x9 x10 x11 x12 x13 : Option O) : ∀ (ds : List PyData) (c : Int), 0 ≤ c → c + 3 * ds.length ≤ 900000 → ∃ rows : List (Int × Int), rows.length = ds.length ∧ (∀ x ∈ rows, Q 30 x) ∧
    compD (asgD (.name 14)) (evTs P21 none) (ev P21 (.call 20 [1] [])) [14] ds (en v (St nums c) x2 x3 x4 x5 x6 x7 x8 x9 x10 x11 x12 x13 none) = .ok (rows.map rO2) (en v (St nums (c + 3 * ds.length)) x2 x3 x4 x5 x6 x7 x8 x9 x10 x11 x12 x13 none)
  | [], c, _, _ => ⟨[], rfl, by simp, by simp [compD]; rfl⟩
  | d :: ds, c, h0, hc => by
    simp only [List.length_cons] at hc
    obtain ⟨p, hp, _, h1⟩ := r20 (c := c) hn h0 (by omega)
    obtain ⟨rows, hl, hq, h2⟩ := comp_dr14 hn v x2 x3 x4 x5 x6 x7 x8 x9 x10 x11 x12 x13 ds (c + 3) (by omega) (by omega)
    refine ⟨p :: rows, by simp [hl], fun x hx => ?_, ?_⟩
    · rcases List.mem_cons.mp hx with e | e
      · rw [e]; exact hp
      · exact hq x e
    show ((asgD _ _) >>= fun _ => _) _ = _
    rw [M.bind_ok (a := ()) (e' := en v (St nums c) x2 x3 x4 x5 x6 x7 x8 x9 x10 x11 x12 x13 (some (.val d))) (by simp [sts, DL.st, seqS, runM, ev, evs, evP, evO, evT, evTs, evI, evF, M.bind_def, pure_ok, of_ok', slotV_v, slotP_s, pn_var, pnOf, rd_o, rd_lm, rd_s, rdv_v, rdv_l, rdAll, fz_v, O.fzAll, valsOf, toD, fzAllM, b_add, b_sub, b_mul, b_fdiv, b_mod, b_cat, c_eq, c_ne, c_eqs, c_lt, c_le, c_gt, c_ge, t_bl, it_l, g_l, g_t, k_lenT, k_lenL, k_abs, k_int, k_intb, k_max, k_min, k_str, asgD, asgAll, callM, getAll, setAll, chkSlots, chkLst, asInt, atI_0, atI_1, size2, size1]), M.bind_ok (a := true) (e' := en v (St nums c) x2 x3 x4 x5 x6 x7 x8 x9 x10 x11 x12 x13 (some (.val d))) (by simp [sts, DL.st, seqS, runM, ev, evs, evP, evO, evT, evTs, evI, evF, M.bind_def, pure_ok, of_ok', slotV_v, slotP_s, pn_var, pnOf, rd_o, rd_lm, rd_s, rdv_v, rdv_l, rdAll, fz_v, O.fzAll, valsOf, toD, fzAllM, b_add, b_sub, b_mul, b_fdiv, b_mod, b_cat, c_eq, c_ne, c_eqs, c_lt, c_le, c_gt, c_ge, t_bl, it_l, g_l, g_t, k_lenT, k_lenL, k_abs, k_int, k_intb, k_max, k_min, k_str, asgD, asgAll, callM, getAll, setAll, chkSlots, chkLst, asInt, atI_0, atI_1, size2, size1])]
    simp only [if_true]
    rw [M.bind_ok (a := rO2 p) (e' := en v (St nums (c + 3)) x2 x3 x4 x5 x6 x7 x8 x9 x10 x11 x12 x13 (some (.val d))) (by simp [sts, DL.st, seqS, runM, ev, evs, evP, evO, evT, evTs, evI, evF, M.bind_def, pure_ok, of_ok', slotV_v, slotP_s, pn_var, pnOf, rd_o, rd_lm, rd_s, rdv_v, rdv_l, rdAll, fz_v, O.fzAll, valsOf, toD, fzAllM, b_add, b_sub, b_mul, b_fdiv, b_mod, b_cat, c_eq, c_ne, c_eqs, c_lt, c_le, c_gt, c_ge, t_bl, it_l, g_l, g_t, k_lenT, k_lenL, k_abs, k_int, k_intb, k_max, k_min, k_str, asgD, asgAll, callM, getAll, setAll, chkSlots, chkLst, asInt, atI_0, atI_1, size2, size1, P21, h1]), M.bind_ok (a := ()) (e' := en v (St nums (c + 3)) x2 x3 x4 x5 x6 x7 x8 x9 x10 x11 x12 x13 none) (by simp [wipeM, isVal, wipeE]), M.bind_ok h2]
    rw [show c + 3 * ((d :: ds).length : Int) = c + 3 + 3 * (ds.length : Int) by simp; omega]
    rfl

end K01
namespace K01
open PySem PySem.Spec PyProof.Rows L2 DL
/-! ### the lines of a turn -/
section
variable {nums : List Int} (hn : Nm nums) (v : O) {c : Int} (h0 : 0 ≤ c) (hc : c ≤ 800000) (x2 x3 x4 x5 x6 x7 x8 x9 x10 x11 x12 x13 x14 : Option O)
include hn h0 hc
theorem e1_ok : ∃ a : Int, B 20 a ∧ DL.st P21 t1 (en v (St nums c) x2 x3 x4 x5 x6 x7 x8 x9 x10 x11 x12 x13 x14) = .nx (en v (St nums (c + 1)) x2 (some (iO a)) x4 x5 x6 x7 x8 x9 x10 x11 x12 x13 x14) := by
  obtain ⟨a, a0, a1, ha⟩ := r14 (many := 900) hn h0 (by omega) (by decide)
  exact ⟨a - 450, by unfold B; omega, by simp [sts, DL.st, seqS, runM, ev, evs, evP, evO, evT, evTs, evI, evF, M.bind_def, pure_ok, of_ok', slotV_v, slotP_s, pn_var, pnOf, rd_o, rd_lm, rd_s, rdv_v, rdv_l, rdAll, fz_v, O.fzAll, valsOf, toD, fzAllM, b_add, b_sub, b_mul, b_fdiv, b_mod, b_cat, c_eq, c_ne, c_eqs, c_lt, c_le, c_gt, c_ge, t_bl, it_l, g_l, g_t, k_lenT, k_lenL, k_abs, k_int, k_intb, k_max, k_min, k_str, asgD, asgAll, callM, getAll, setAll, chkSlots, chkLst, asInt, atI_0, atI_1, size2, size1, P21, ha]⟩
theorem e2_ok : ∃ a : Int, B 20 a ∧ a ≠ 0 ∧ DL.st P21 t2 (en v (St nums c) x2 x3 x4 x5 x6 x7 x8 x9 x10 x11 x12 x13 x14) = .nx (en v (St nums (c + 3)) x2 x3 (some (iO a)) x5 x6 x7 x8 x9 x10 x11 x12 x13 x14) := by
  obtain ⟨a, a0, a1, ha⟩ := r14 (many := 80) hn h0 (by omega) (by decide)
  obtain ⟨b, b0, b1, hb⟩ := r14 (c := c + 1) (many := 80) hn (by omega) (by omega) (by decide)
  obtain ⟨d, d0, d1, hd⟩ := r14 (c := c + 1 + 1) (many := 2) hn (by omega) (by omega) (by decide)
  rw [show c + 1 + 1 + 1 = c + 3 by omega] at hd
  have hd2 : d = 0 ∨ d = 1 := by omega
  rcases hd2 with e | e
  · subst e
    exact ⟨1 + a, by unfold B; omega, by omega, by simp [sts, DL.st, seqS, runM, ev, evs, evP, evO, evT, evTs, evI, evF, M.bind_def, pure_ok, of_ok', slotV_v, slotP_s, pn_var, pnOf, rd_o, rd_lm, rd_s, rdv_v, rdv_l, rdAll, fz_v, O.fzAll, valsOf, toD, fzAllM, b_add, b_sub, b_mul, b_fdiv, b_mod, b_cat, c_eq, c_ne, c_eqs, c_lt, c_le, c_gt, c_ge, t_bl, it_l, g_l, g_t, k_lenT, k_lenL, k_abs, k_int, k_intb, k_max, k_min, k_str, asgD, asgAll, callM, getAll, setAll, chkSlots, chkLst, asInt, atI_0, atI_1, size2, size1, P21, ha, hb, hd]⟩
  · subst e
    exact ⟨-1 - b, by unfold B; omega, by omega, by simp [sts, DL.st, seqS, runM, ev, evs, evP, evO, evT, evTs, evI, evF, M.bind_def, pure_ok, of_ok', slotV_v, slotP_s, pn_var, pnOf, rd_o, rd_lm, rd_s, rdv_v, rdv_l, rdAll, fz_v, O.fzAll, valsOf, toD, fzAllM, b_add, b_sub, b_mul, b_fdiv, b_mod, b_cat, c_eq, c_ne, c_eqs, c_lt, c_le, c_gt, c_ge, t_bl, it_l, g_l, g_t, k_lenT, k_lenL, k_abs, k_int, k_intb, k_max, k_min, k_str, asgD, asgAll, callM, getAll, setAll, chkSlots, chkLst, asInt, atI_0, atI_1, size2, size1, P21, ha, hb, hd]⟩
theorem e3_ok : ∃ p : Int × Int, Q 30 p ∧ Int.gcd p.1 p.2 = 1 ∧ DL.st P21 t3 (en v (St nums c) x2 x3 x4 x5 x6 x7 x8 x9 x10 x11 x12 x13 x14) = .nx (en v (St nums (c + 3)) x2 x3 x4 (some (rO2 p)) x6 x7 x8 x9 x10 x11 x12 x13 x14) := by
  obtain ⟨p, hp, hg, h1⟩ := r20 (c := c) hn h0 (by omega)
  exact ⟨p, hp, hg, by simp [sts, DL.st, seqS, runM, ev, evs, evP, evO, evT, evTs, evI, evF, M.bind_def, pure_ok, of_ok', slotV_v, slotP_s, pn_var, pnOf, rd_o, rd_lm, rd_s, rdv_v, rdv_l, rdAll, fz_v, O.fzAll, valsOf, toD, fzAllM, b_add, b_sub, b_mul, b_fdiv, b_mod, b_cat, c_eq, c_ne, c_eqs, c_lt, c_le, c_gt, c_ge, t_bl, it_l, g_l, g_t, k_lenT, k_lenL, k_abs, k_int, k_intb, k_max, k_min, k_str, asgD, asgAll, callM, getAll, setAll, chkSlots, chkLst, asInt, atI_0, atI_1, size2, size1, P21, h1]⟩
theorem e4_ok : ∃ p : Int × Int, Q 30 p ∧ DL.st P21 t4 (en v (St nums c) x2 x3 x4 x5 x6 x7 x8 x9 x10 x11 x12 x13 x14) = .nx (en v (St nums (c + 3)) x2 x3 x4 x5 (some (rO2 p)) x7 x8 x9 x10 x11 x12 x13 x14) := by
  obtain ⟨p, hp, hg, h1⟩ := r20 (c := c) hn h0 (by omega)
  exact ⟨p, hp, by simp [sts, DL.st, seqS, runM, ev, evs, evP, evO, evT, evTs, evI, evF, M.bind_def, pure_ok, of_ok', slotV_v, slotP_s, pn_var, pnOf, rd_o, rd_lm, rd_s, rdv_v, rdv_l, rdAll, fz_v, O.fzAll, valsOf, toD, fzAllM, b_add, b_sub, b_mul, b_fdiv, b_mod, b_cat, c_eq, c_ne, c_eqs, c_lt, c_le, c_gt, c_ge, t_bl, it_l, g_l, g_t, k_lenT, k_lenL, k_abs, k_int, k_intb, k_max, k_min, k_str, asgD, asgAll, callM, getAll, setAll, chkSlots, chkLst, asInt, atI_0, atI_1, size2, size1, P21, h1]⟩
theorem e5_ok (h12 : isVal (some x12) = true) : ∃ (rows : List (Int × Int)) (c' : Int), 0 < rows.length ∧ rows.length ≤ 5 ∧ (∀ x ∈ rows, Q 30 x) ∧ c ≤ c' ∧ c' ≤ c + 16 ∧ DL.st P21 t5 (en v (St nums c) x2 x3 x4 x5 x6 x7 x8 x9 x10 x11 x12 x13 x14) = .nx (en v (St nums c') x2 x3 x4 x5 x6 (some (.lst (rows.map rO2))) x8 x9 x10 x11 x12 x13 x14) := by
  obtain ⟨a, a0, a1, ha⟩ := r14 (many := 5) hn h0 (by omega) (by decide)
  have hlen : (range1 0 (1 + a)).length = (1 + a).toNat := by simp [range1]
  obtain ⟨rows, hl, hq, h1⟩ := comp_dr12 hn v x2 x3 x4 x5 x6 x7 x8 x9 x10 x11 x14 x13 (range1 0 (1 + a)) (c + 1) (by omega) (by omega)
  refine ⟨rows, c + 1 + 3 * (range1 0 (1 + a)).length, by omega, by omega, hq, by omega, by omega, st_asgN (o := .lst (rows.map rO2)) (e1 := en v (St nums (c + 1 + 3 * (range1 0 (1 + a)).length)) x2 x3 x4 x5 x6 x7 x8 x9 x10 x11 x12 x13 x14) ?_ (by simp)⟩
  have hI : evI P21 (.rng1 (.op .Add (.int 1) (.call 14 [1] [(.int 5)]))) (en v (St nums c) x2 x3 x4 x5 x6 x7 x8 x9 x10 x11 x12 x13 x14) = .ok (range1 0 (1 + a)) (en v (St nums (c + 1)) x2 x3 x4 x5 x6 x7 x8 x9 x10 x11 x12 x13 x14) := by
    have hr : rngD1 (.int (1 + a)) = some (range1 0 (1 + a)) := if_pos ⟨by omega, by omega⟩
    simp [sts, DL.st, seqS, runM, ev, evs, evP, evO, evT, evTs, evI, evF, M.bind_def, pure_ok, of_ok', slotV_v, slotP_s, pn_var, pnOf, rd_o, rd_lm, rd_s, rdv_v, rdv_l, rdAll, fz_v, O.fzAll, valsOf, toD, fzAllM, b_add, b_sub, b_mul, b_fdiv, b_mod, b_cat, c_eq, c_ne, c_eqs, c_lt, c_le, c_gt, c_ge, t_bl, it_l, g_l, g_t, k_lenT, k_lenL, k_abs, k_int, k_intb, k_max, k_min, k_str, asgD, asgAll, callM, getAll, setAll, chkSlots, chkLst, asInt, atI_0, atI_1, size2, size1, P21, ha, hr]
  show (evI _ _ >>= fun ds => _) _ = _
  rw [M.bind_ok hI]
  rw [M.bind_ok (a := rows.map rO2) (e' := en v (St nums (c + 1 + 3 * (range1 0 (1 + a)).length)) x2 x3 x4 x5 x6 x7 x8 x9 x10 x11 x12 x13 x14)]
  · show M.of (if _ then _ else _) _ = _
    rw [if_pos]
    · rfl
    · rw [slL, List.length_map]; omega
  · unfold blockM
    simp only [h12, List.all_cons, List.all_nil, wipeE, List.getElem?_cons_succ, List.getElem?_cons_zero, Bool.and_self, if_true, List.set_cons_succ, List.set_cons_zero, h1]
    rfl
theorem e6_ok {rows : List (Int × Int)} (hrl : rows.length ≤ 5) (h14 : isVal (some x14) = true) : ∃ (more : List (Int × Int)) (c' : Int), more.length = rows.length ∧ (∀ x ∈ more, Q 30 x) ∧ c ≤ c' ∧ c' ≤ c + 15 ∧ DL.st P21 t6 (en v (St nums c) x2 x3 x4 x5 x6 (some (.lst (rows.map rO2))) x8 x9 x10 x11 x12 x13 x14) = .nx (en v (St nums c') x2 x3 x4 x5 x6 (some (lR rows)) (some (.lst (more.map rO2))) x9 x10 x11 x12 x13 x14) := by
  obtain ⟨more, hl, hq, h1⟩ := comp_dr14 hn v x2 x3 x4 x5 x6 (some (lR rows)) x8 x9 x10 x11 x12 x13 (rows.map rD) c h0 (by simp; omega)
  rw [List.length_map] at hl h1
  refine ⟨more, c + 3 * rows.length, hl, hq, by omega, by omega, st_asgN (o := .lst (more.map rO2)) (e1 := en v (St nums (c + 3 * rows.length)) x2 x3 x4 x5 x6 (some (lR rows)) x8 x9 x10 x11 x12 x13 x14) ?_ (by simp)⟩
  have hI : evI P21 (.it (.var 7)) (en v (St nums c) x2 x3 x4 x5 x6 (some (.lst (rows.map rO2))) x8 x9 x10 x11 x12 x13 x14) = .ok (rows.map rD) (en v (St nums c) x2 x3 x4 x5 x6 (some (lR rows)) x8 x9 x10 x11 x12 x13 x14) := by
    have hs := slotV_f (n := 7) (e := en v (St nums c) x2 x3 x4 x5 x6 (some (.lst (rows.map rO2))) x8 x9 x10 x11 x12 x13 x14) rfl (fz_rO2 rows)
    show (slotV 7 >>= fun o => _) _ = _
    rw [M.bind_ok hs]
    rfl
  show (evI _ _ >>= fun ds => _) _ = _
  rw [M.bind_ok hI]
  rw [M.bind_ok (a := more.map rO2) (e' := en v (St nums (c + 3 * rows.length)) x2 x3 x4 x5 x6 (some (lR rows)) x8 x9 x10 x11 x12 x13 x14)]
  · show M.of (if _ then _ else _) _ = _
    rw [if_pos]
    · rfl
    · rw [slL, List.length_map]; omega
  · unfold blockM
    simp only [h14, List.all_cons, List.all_nil, wipeE, List.getElem?_cons_succ, List.getElem?_cons_zero, Bool.and_self, if_true, List.set_cons_succ, List.set_cons_zero, h1]
    rfl
end
theorem lg20 {k : Nat} {i : Int} (h : B k i) (hk : k ≤ 1900) : i.natAbs.log2 < 1920 := by
  have := h.lg hk
  omega
theorem gd_r {k : Nat} {p : Int × Int} (h : Q k p) (hk : k ≤ 1900) : gd (rD p) := by
  simp only [gd, gds]
  exact ⟨lg20 h.n hk, lg20 h.d hk, trivial⟩
section
variable (v st : O) (x2 x3 x4 x5 x6 x7 x8 x9 x10 x11 x12 x13 x14 : Option O)
theorem e7_ok {a b : Int} {p : Int × Int} (ha : B 20 a) (hb : B 20 b) (hz : b ≠ 0) (hp : Q 30 p) (hg : Int.gcd p.1 p.2 = 1) : DL.st P21 t7 (en v st x2 (some (iO a)) (some (iO b)) (some (rO2 p)) x6 x7 x8 x9 x10 x11 x12 x13 x14) = .nx (en v st x2 (some (iO a)) (some (iO b)) (some (rO2 p)) x6 x7 x8 x9 x10 x11 x12 x13 x14) := by
  have q1 := r1 a b hz hb (by decide)
  have q16 := r16 a b hz hb (by decide)
  have q2 : s2.run [rO2 p] = .ok (bO true) [] := by
    rw [r2 p, hg, decide_eq_true (show 1 ≤ p.2 from hp.p)]; rfl
  have q3 : s2.run [rO2 (2 * p.1, 2 * p.2)] = .ok (bO false) [] := by
    rw [r2]
    have : Int.gcd (2 * p.1) (2 * p.2) = 2 := by
      rw [Int.gcd_mul_left, hg]; rfl
    rw [this]
    simp
  have q4 : s2.run [rO2 (1, 0)] = .ok (bO false) [] := by rw [r2]; rfl
  have q5 : s2.run [rO2 (3, -1)] = .ok (bO false) [] := by rw [r2]; rfl
  have hr : Q 20 (rat a b) := .rat ha hb hz
  have q12 := r12 (o1 := .lst [rO2 (rat a b), bO true, bO false, bO false, bO false]) (o2 := .lst [rO2 (rat a b), bO true, bO false, bO false, bO false]) (d := .list [rD (rat a b), .bool true, .bool false, .bool false, .bool false]) rfl rfl
    (by simp only [gd, gds]; exact ⟨⟨lg20 hr.n (by decide), lg20 hr.d (by decide), trivial⟩, trivial, trivial, trivial, trivial, trivial⟩) (by simp [wt, wts]) (by simp [PyData.depth, PyData.depthAll])
  have m1 : binD .Mult (.int 2) (.int p.1) = some (iO (2 * p.1)) := b_mul _ _ ((show B 2 2 by unfold B; decide).lgm (by decide) hp.n (by decide))
  have m2 : binD .Mult (.int 2) (.int p.2) = some (iO (2 * p.2)) := b_mul _ _ ((show B 2 2 by unfold B; decide).lgm (by decide) hp.d (by decide))
  have s5 : 5 ≤ sizeLine := by decide
  rw [st_false (e1 := en v st x2 (some (iO a)) (some (iO b)) (some (rO2 p)) x6 x7 x8 x9 x10 x11 x12 x13 x14)]
  · rfl
  · simp [sts, DL.st, seqS, runM, ev, evs, evP, evO, evT, evTs, evI, evF, M.bind_def, pure_ok, of_ok', slotV_v, slotP_s, pn_var, pnOf, rd_o, rd_lm, rd_s, rdv_v, rdv_l, rdAll, fz_v, O.fzAll, valsOf, toD, fzAllM, b_add, b_sub, b_mul, b_fdiv, b_mod, b_cat, c_eq, c_ne, c_eqs, c_lt, c_le, c_gt, c_ge, t_bl, it_l, g_l, g_t, k_lenT, k_lenL, k_abs, k_int, k_intb, k_max, k_min, k_str, asgD, asgAll, callM, getAll, setAll, chkSlots, chkLst, asInt, atI_0, atI_1, size2, size1, P21, q1, q16, q2, q3, q4, q5, m1, m2, s5, q12]
/-- what is due of two ratios -/
abbrev dueL (p q : Int × Int) : List PyData := [rD (plus p q), rD (-p.1, p.2), rD (tms p q), .bool (les p q)]
theorem e8_ok {p q : Int × Int} (hp : Q 30 p) (hq : Q 30 q) : DL.st P21 t8 (en v st x2 x3 x4 (some (rO2 p)) (some (rO2 q)) x7 x8 x9 x10 x11 x12 x13 x14) = .nx (en v st x2 x3 x4 (some (rO2 p)) (some (rO2 q)) x7 x8 (some (.lst ((dueL p q).map O.val))) x10 x11 x12 x13 x14) := by
  have q1 := r17 hp hq (by decide)
  have q2 := r16 (p.1 * q.1) (p.2 * q.2) (ne_mul hp.ne hq.ne) (hp.d.mul hq.d) (by decide)
  have q3 := r19 hp hq (by decide)
  have m1 := b_mul _ _ (hp.n.lgm (by decide) hq.n (by decide))
  have m2 := b_mul _ _ (hp.d.lgm (by decide) hq.d (by decide))
  have s5 : 4 ≤ sizeLine := by decide
  simp [sts, DL.st, seqS, runM, ev, evs, evP, evO, evT, evTs, evI, evF, M.bind_def, pure_ok, of_ok', slotV_v, slotP_s, pn_var, pnOf, rd_o, rd_lm, rd_s, rdv_v, rdv_l, rdAll, fz_v, O.fzAll, valsOf, toD, fzAllM, b_add, b_sub, b_mul, b_fdiv, b_mod, b_cat, c_eq, c_ne, c_eqs, c_lt, c_le, c_gt, c_ge, t_bl, it_l, g_l, g_t, k_lenT, k_lenL, k_abs, k_int, k_intb, k_max, k_min, k_str, asgD, asgAll, callM, getAll, setAll, chkSlots, chkLst, asInt, atI_0, atI_1, size2, size1, P21, q1, q2, q3, m1, m2, s5]
  exact ⟨rfl, rfl⟩
theorem e9_ok {p q : Int × Int} (hp : Q 30 p) (hq : Q 30 q) : DL.st P21 t9 (en v st x2 x3 x4 (some (rO2 p)) (some (rO2 q)) x7 x8 (some (.lst ((dueL p q).map O.val))) x10 x11 x12 x13 x14) = .nx (en v st x2 x3 x4 (some (rO2 p)) (some (rO2 q)) x7 x8 (some (.val (.list (dueL p q)))) x10 x11 x12 x13 x14) := by
  have q1 := r3 hp hq (by decide)
  have q2 := r4 p
  have q3 := r5 hp hq (by decide)
  have q4 := r7 hp hq (by decide)
  have s5 : 4 ≤ sizeLine := by decide
  have hs := slotV_f (n := 9) (e := en v st x2 x3 x4 (some (rO2 p)) (some (rO2 q)) x7 x8 (some (.lst ((dueL p q).map O.val))) x10 x11 x12 x13 x14) rfl (fz_lst (dueL p q))
  have w1 := hp.plus hq
  have w2 := hp.tms hq
  have w3 : B 30 (-p.1) := by have := hp.n; unfold B at *; rw [Int.natAbs_neg]; exact this
  have q12 := r12 (o1 := .lst ((dueL p q).map O.val)) (o2 := .val (.list (dueL p q))) (d := .list (dueL p q)) (fz_lst _) rfl
    (by simp only [gd, gds]; exact ⟨⟨lg20 w1.n (by decide), lg20 w1.d (by decide), trivial⟩, ⟨lg20 w3 (by decide), lg20 hp.d (by decide), trivial⟩, ⟨lg20 w2.n (by decide), lg20 w2.d (by decide), trivial⟩, trivial, trivial⟩) (by simp [wt, wts]) (by simp [PyData.depth, PyData.depthAll])
  simp only [List.map_cons, List.map_nil] at hs q12 ⊢
  rw [st_false (e1 := en v st x2 x3 x4 (some (rO2 p)) (some (rO2 q)) x7 x8 (some (.val (.list (dueL p q)))) x10 x11 x12 x13 x14)]
  · rfl
  · simp [sts, DL.st, seqS, runM, ev, evs, evP, evO, evT, evTs, evI, evF, M.bind_def, pure_ok, of_ok', slotV_v, slotP_s, pn_var, pnOf, rd_o, rd_lm, rd_s, rdv_v, rdv_l, rdAll, fz_v, O.fzAll, valsOf, toD, fzAllM, b_add, b_sub, b_mul, b_fdiv, b_mod, b_cat, c_eq, c_ne, c_eqs, c_lt, c_le, c_gt, c_ge, t_bl, it_l, g_l, g_t, k_lenT, k_lenL, k_abs, k_int, k_intb, k_max, k_min, k_str, asgD, asgAll, callM, getAll, setAll, chkSlots, chkLst, asInt, atI_0, atI_1, size2, size1, P21, q1, q2, q3, q4, s5, hs, q12]
theorem e10_ok {p q : Int × Int} (hp : Q 30 p) (hq : Q 30 q) : DL.st P21 t10 (en v st x2 x3 x4 (some (rO2 p)) (some (rO2 q)) x7 x8 x9 x10 x11 x12 x13 x14) = .nx (en v st x2 x3 x4 (some (rO2 p)) (some (rO2 q)) x7 x8 x9 x10 x11 x12 x13 x14) := by
  rw [st_false (e1 := en v st x2 x3 x4 (some (rO2 p)) (some (rO2 q)) x7 x8 x9 x10 x11 x12 x13 x14)]
  · rfl
  · by_cases hz : q.1 = 0
    · simp [sts, DL.st, seqS, runM, ev, evs, evP, evO, evT, evTs, evI, evF, M.bind_def, pure_ok, of_ok', slotV_v, slotP_s, pn_var, pnOf, rd_o, rd_lm, rd_s, rdv_v, rdv_l, rdAll, fz_v, O.fzAll, valsOf, toD, fzAllM, b_add, b_sub, b_mul, b_fdiv, b_mod, b_cat, c_eq, c_ne, c_eqs, c_lt, c_le, c_gt, c_ge, t_bl, it_l, g_l, g_t, k_lenT, k_lenL, k_abs, k_int, k_intb, k_max, k_min, k_str, asgD, asgAll, callM, getAll, setAll, chkSlots, chkLst, asInt, atI_0, atI_1, size2, size1, hz]
    · have q1 := r6 hp hq hz (by decide)
      have q2 := r16 (p.1 * q.2) (p.2 * q.1) (ne_mul hp.ne hz) (hp.d.mul hq.n) (by decide)
      have m1 := b_mul _ _ (hp.n.lgm (by decide) hq.d (by decide))
      have m2 := b_mul _ _ (hp.d.lgm (by decide) hq.n (by decide))
      have hr : Q 60 (ovr p q) := .rat (hp.n.mul hq.d) (hp.d.mul hq.n) (ne_mul hp.ne hz)
      have q12 := r12 (o1 := rO2 (ovr p q)) (o2 := rO2 (ovr p q)) (d := rD (ovr p q)) rfl rfl (gd_r hr (by decide)) (by simp [wt, wts]) (by simp [PyData.depth, PyData.depthAll])
      change s16.run _ = .ok (rO2 (ovr p q)) [] at q2
      simp [sts, DL.st, seqS, runM, ev, evs, evP, evO, evT, evTs, evI, evF, M.bind_def, pure_ok, of_ok', slotV_v, slotP_s, pn_var, pnOf, rd_o, rd_lm, rd_s, rdv_v, rdv_l, rdAll, fz_v, O.fzAll, valsOf, toD, fzAllM, b_add, b_sub, b_mul, b_fdiv, b_mod, b_cat, c_eq, c_ne, c_eqs, c_lt, c_le, c_gt, c_ge, t_bl, it_l, g_l, g_t, k_lenT, k_lenL, k_abs, k_int, k_intb, k_max, k_min, k_str, asgD, asgAll, callM, getAll, setAll, chkSlots, chkLst, asInt, atI_0, atI_1, size2, size1, P21, q1, q2, m1, m2, hz, q12]
end
end K01
namespace K01
open PySem PySem.Spec PyProof.Rows L2 DL
theorem foldl_Q : ∀ (rows : List (Int × Int)) (t : Int × Int), Q 60 t → (∀ x ∈ rows, Q 60 x) → Q 60 (rows.foldl bst t)
  | [], _, h, _ => h
  | x :: rows, t, h, hr => foldl_Q rows _ (bst_Q h (hr x (by simp))) fun y hy => hr y (by simp [hy])
theorem sum_Q : ∀ (rows : List (Int × Int)) (k : Nat) (t : Int × Int), Q k t → (∀ x ∈ rows, Q 60 x) → Q (k + 61 * rows.length) (rows.foldl plus t)
  | [], _, _, h, _ => h
  | x :: rows, k, t, h, hr => by
    have := sum_Q rows (k + 60 + 1) (plus t x) (h.plus (hr x (by simp))) fun y hy => hr y (by simp [hy])
    refine this.mono ?_
    simp; omega
theorem rng_ok (j : Int) (h1 : 0 ≤ j) (h2 : j ≤ 1000000) : rngD1 (.int j) = some (range1 0 j) := if_pos ⟨by omega, by omega⟩
theorem lenS (xs : List PyData) (h : xs.length ≤ 4000) : bltD .len [.list xs] = some (.val (.int xs.length)) := k_lenL xs (by rw [slL]; omega)
theorem bst_self (x : Int × Int) : bst x x = x := by unfold bst; split <;> rfl
theorem A3 {R : List (Int × Int)} {n : Int} (hk : bltD .len [.list (R.map rD)] = some (iO n)) (e : DEnv) (h7 : e[7]? = some (some (lR R))) : ev P21 (.blt .len [(.var 7)]) e = .ok (iO n) e := by
  have q1 : evP P21 [(.var 7)] e = .ok [.s 7] e := by
    show (slotP 7 >>= fun p => _) e = _
    rw [M.bind_ok (slotP_s h7)]; rfl
  have q2 : rdAll [.s 7] e = .ok [.list (R.map rD)] e := by
    show (rd (.s 7) >>= fun d => _) e = _
    rw [M.bind_ok (rd_s h7)]; rfl
  show (evP P21 _ >>= fun ps => _) e = _
  rw [M.bind_ok q1, M.bind_ok q2]
  show M.of (bltD .len [.list (R.map rD)]) e = _
  rw [hk]; rfl
theorem A4 {n : Int} (hr : rngD1 (.int n) = some (range1 0 n)) (e : DEnv) (q3 : ev P21 (.blt .len [(.var 7)]) e = .ok (iO n) e) : evI P21 (.rng1 (.blt .len [(.var 7)])) e = .ok (range1 0 n) e := by
  show ((ev P21 _ >>= fun o => _) >>= fun p => _) e = _
  rw [M.bind_ok (a := Pn.o (iO n)) (e' := e) (by rw [M.bind_ok q3]; rfl)]
  show M.of (rngD1 (.int n)) e = _
  rw [hr]; rfl
theorem A1 {R : List (Int × Int)} (h5 : R.length ≤ 5) : bltD .len [.list (R.map rD)] = some (iO (R.length : Int)) := by
  have hk := lenS (R.map rD) (by rw [List.length_map]; omega)
  rw [List.length_map] at hk
  exact hk
theorem evI_len {R : List (Int × Int)} (h5 : R.length ≤ 5) (e : DEnv) (h7 : e[7]? = some (some (lR R))) : evI P21 (.rng1 (.blt .len [(.var 7)])) e = .ok (range1 0 (R.length : Int)) e :=
  A4 (rng_ok (R.length : Int) (by omega) (by omega)) e (A3 (A1 h5) e h7)
section
variable (v st : O) (x2 x3 x4 x5 x6 x7 x8 x9 x10 x11 x12 x13 x14 : Option O)
theorem e11_ok {x : Int × Int} {rows : List (Int × Int)} : DL.st P21 t11 (en v st x2 x3 x4 x5 x6 (some (lR (x :: rows))) x8 x9 x10 x11 x12 x13 x14) = .nx (en v st x2 x3 x4 x5 x6 (some (lR (x :: rows))) x8 x9 (some (rO2 x)) x11 x12 x13 x14) := by
  simp [sts, DL.st, seqS, runM, ev, evs, evP, evO, evT, evTs, evI, evF, M.bind_def, pure_ok, of_ok', slotV_v, slotP_s, pn_var, pnOf, rd_o, rd_lm, rd_s, rdv_v, rdv_l, rdAll, fz_v, O.fzAll, valsOf, toD, fzAllM, b_add, b_sub, b_mul, b_fdiv, b_mod, b_cat, c_eq, c_ne, c_eqs, c_lt, c_le, c_gt, c_ge, t_bl, it_l, g_l, g_t, k_lenT, k_lenL, k_abs, k_int, k_intb, k_max, k_min, k_str, asgD, asgAll, callM, getAll, setAll, chkSlots, chkLst, asInt, atI_0, atI_1, size2, size1]
theorem e12_ok : DL.st P21 t12 (en v st x2 x3 x4 x5 x6 x7 x8 x9 x10 x11 x12 x13 x14) = .nx (en v st x2 x3 x4 x5 x6 x7 x8 x9 x10 (some (rO2 (0, 1))) x12 x13 x14) := by
  simp [sts, DL.st, seqS, runM, ev, evs, evP, evO, evT, evTs, evI, evF, M.bind_def, pure_ok, of_ok', slotV_v, slotP_s, pn_var, pnOf, rd_o, rd_lm, rd_s, rdv_v, rdv_l, rdAll, fz_v, O.fzAll, valsOf, toD, fzAllM, b_add, b_sub, b_mul, b_fdiv, b_mod, b_cat, c_eq, c_ne, c_eqs, c_lt, c_le, c_gt, c_ge, t_bl, it_l, g_l, g_t, k_lenT, k_lenL, k_abs, k_int, k_intb, k_max, k_min, k_str, asgD, asgAll, callM, getAll, setAll, chkSlots, chkLst, asInt, atI_0, atI_1, size2, size1]
theorem kturn {rows more : List (Int × Int)} {b t : Int × Int} {i : Nat} {k : Nat} (hr : ∀ x ∈ rows, Q 30 x) (hm : ∀ x ∈ more, Q 30 x) (hb : Q 60 b) (ht : Q k t) (hk : k ≤ 800) (h1 : i < rows.length) (h2 : i < more.length) :
    sts P21 kB (en v st x2 x3 x4 x5 x6 (some (lR rows)) (some (.lst (more.map rO2))) x9 (some (rO2 b)) (some (rO2 t)) (some (iO i)) x13 x14) = .nx (en v st x2 x3 x4 x5 x6 (some (lR rows)) (some (.lst (more.map rO2))) x9 (some (rO2 (bst b rows[i]))) (some (rO2 (plus t (tms rows[i] more[i])))) (some (iO i)) x13 x14) := by
  have qa := hr rows[i] (List.getElem_mem h1)
  have qb := hm more[i] (List.getElem_mem h2)
  have g1 : L2.atI (rows.map rD) (i : Int) = some (rD rows[i]) := atI_nat (by rw [List.getElem?_map, List.getElem?_eq_getElem h1]; rfl)
  have g2 : L2.atI (more.map rD) (i : Int) = some (rD more[i]) := atI_nat (by rw [List.getElem?_map, List.getElem?_eq_getElem h2]; rfl)
  have v2 := lR_eq more
  generalize rows[i] = A at qa g1
  generalize more[i] = C at qb g2
  have q1 := r19 hb qa (by decide)
  have q2 := r16 (A.1 * C.1) (A.2 * C.2) (ne_mul qa.ne qb.ne) (qa.d.mul qb.d) (by decide)
  change s16.run _ = .ok (rO2 (tms A C)) [] at q2
  have q3 := r17 ht (qa.tms qb) (by omega)
  have m1 := b_mul _ _ (qa.n.lgm (by decide) qb.n (by decide))
  have m2 := b_mul _ _ (qa.d.lgm (by decide) qb.d (by decide))
  have i0 : L2.atI [rD b, rD A] 0 = some (rD b) := atI_0 _ _
  rw [sts_nx (e1 := en v st x2 x3 x4 x5 x6 (some (lR rows)) (some (.lst (more.map rO2))) x9 (some (rO2 (bst b A))) (some (rO2 t)) (some (iO i)) x13 x14)]
  · simp [sts, DL.st, seqS, runM, ev, evs, evP, evO, evT, evTs, evI, evF, M.bind_def, pure_ok, of_ok', slotV_v, slotP_s, pn_var, pnOf, rd_o, rd_lm, rd_s, rdv_v, rdv_l, rdAll, fz_v, O.fzAll, valsOf, toD, fzAllM, b_add, b_sub, b_mul, b_fdiv, b_mod, b_cat, c_eq, c_ne, c_eqs, c_lt, c_le, c_gt, c_ge, t_bl, it_l, g_l, g_t, k_lenT, k_lenL, k_abs, k_int, k_intb, k_max, k_min, k_str, asgD, asgAll, callM, getAll, setAll, chkSlots, chkLst, asInt, atI_0, atI_1, size2, size1, P21, g1, g2, v2, q2, q3, m1, m2, -List.map_map]
  · unfold bst
    cases hc : les b A with
    | true => rw [hc] at q1; simp [sts, DL.st, seqS, runM, ev, evs, evP, evO, evT, evTs, evI, evF, M.bind_def, pure_ok, of_ok', slotV_v, slotP_s, pn_var, pnOf, rd_o, rd_lm, rd_s, rdv_v, rdv_l, rdAll, fz_v, O.fzAll, valsOf, toD, fzAllM, b_add, b_sub, b_mul, b_fdiv, b_mod, b_cat, c_eq, c_ne, c_eqs, c_lt, c_le, c_gt, c_ge, t_bl, it_l, g_l, g_t, k_lenT, k_lenL, k_abs, k_int, k_intb, k_max, k_min, k_str, asgD, asgAll, callM, getAll, setAll, chkSlots, chkLst, asInt, atI_0, atI_1, size2, size1, P21, g1, q1, -List.map_map]
    | false => rw [hc] at q1; simp [sts, DL.st, seqS, runM, ev, evs, evP, evO, evT, evTs, evI, evF, M.bind_def, pure_ok, of_ok', slotV_v, slotP_s, pn_var, pnOf, rd_o, rd_lm, rd_s, rdv_v, rdv_l, rdAll, fz_v, O.fzAll, valsOf, toD, fzAllM, b_add, b_sub, b_mul, b_fdiv, b_mod, b_cat, c_eq, c_ne, c_eqs, c_lt, c_le, c_gt, c_ge, t_bl, it_l, g_l, g_t, k_lenT, k_lenL, k_abs, k_int, k_intb, k_max, k_min, k_str, asgD, asgAll, callM, getAll, setAll, chkSlots, chkLst, asInt, atI_0, atI_1, size2, size1, P21, g1, q1, -List.map_map]
theorem e13_ok {x : Int × Int} {rows more : List (Int × Int)} (hr : ∀ y ∈ x :: rows, Q 30 y) (hm : ∀ y ∈ more, Q 30 y) (hl : more.length = (x :: rows).length) (h5 : (x :: rows).length ≤ 5) (h12 : isVal (some x12) = true) :
    ∃ y12, isVal (some y12) = true ∧ DL.st P21 t13 (en v st x2 x3 x4 x5 x6 (some (lR (x :: rows))) (some (.lst (more.map rO2))) x9 (some (rO2 x)) (some (rO2 (0, 1))) x12 x13 x14) = .nx (en v st x2 x3 x4 x5 x6 (some (lR (x :: rows))) (some (.lst (more.map rO2))) x9 (some (rO2 (rows.foldl bst x))) (some (rO2 (sumR (List.zipWith tms (x :: rows) more)))) y12 x13 x14) := by
  have hz := zw_Q (x :: rows) more hr hm
  have hzl : (List.zipWith tms (x :: rows) more).length = (x :: rows).length := by simp [hl]
  have len : ∀ xs : List (Int × Int), (range1 0 (xs.length : Int)).length = xs.length := fun xs => by simp [range1]
  obtain ⟨e', h1, h2⟩ := for_inv (fs := asgD (.name 12)) (body := sts P21 kB)
    (fun i e => ∃ y12, isVal (some y12) = true ∧ e = en v st x2 x3 x4 x5 x6 (some (lR (x :: rows))) (some (.lst (more.map rO2))) x9 (some (rO2 (((x :: rows).take i).foldl bst x))) (some (rO2 (((List.zipWith tms (x :: rows) more).take i).foldl plus (0, 1)))) y12 x13 x14) (fun _ => False)
    (range1 0 ((x :: rows).length : Int)) 0 (en v st x2 x3 x4 x5 x6 (some (lR (x :: rows))) (some (.lst (more.map rO2))) x9 (some (rO2 x)) (some (rO2 (0, 1))) x12 x13 x14) ⟨x12, h12, rfl⟩ fun i d e hd hi => by
      obtain ⟨hi5, rfl⟩ := range1_inv hd
      rw [Nat.zero_add] at hi ⊢
      obtain ⟨y12, hy, rfl⟩ := hi
      have il : i < (x :: rows).length := by omega
      have il2 : i < more.length := by omega
      have qb : Q 60 (((x :: rows).take i).foldl bst x) := foldl_Q _ _ ((hr x (by simp)).mono (by decide)) fun y hy => (hr y (List.mem_of_mem_take hy)).mono (by decide)
      have qt : Q (60 + 61 * ((List.zipWith tms (x :: rows) more).take i).length) (((List.zipWith tms (x :: rows) more).take i).foldl plus (0, 1)) := sum_Q _ _ _ q01 fun y hy => hz y (List.mem_of_mem_take hy)
      have hk := kturn v st x2 x3 x4 x5 x6 x9 x13 x14 hr hm qb qt (by rw [List.length_take, hzl]; omega) il il2
      refine ⟨_, _, show asgD (.name 12) (.int (0 + i)) _ = .ok () (en v st x2 x3 x4 x5 x6 (some (lR (x :: rows))) (some (.lst (more.map rO2))) x9 (some (rO2 (((x :: rows).take i).foldl bst x))) (some (rO2 (((List.zipWith tms (x :: rows) more).take i).foldl plus (0, 1)))) (some (iO i)) x13 x14) by simp [sts, DL.st, seqS, runM, ev, evs, evP, evO, evT, evTs, evI, evF, M.bind_def, pure_ok, of_ok', slotV_v, slotP_s, pn_var, pnOf, rd_o, rd_lm, rd_s, rdv_v, rdv_l, rdAll, fz_v, O.fzAll, valsOf, toD, fzAllM, b_add, b_sub, b_mul, b_fdiv, b_mod, b_cat, c_eq, c_ne, c_eqs, c_lt, c_le, c_gt, c_ge, t_bl, it_l, g_l, g_t, k_lenT, k_lenL, k_abs, k_int, k_intb, k_max, k_min, k_str, asgD, asgAll, callM, getAll, setAll, chkSlots, chkLst, asInt, atI_0, atI_1, size2, size1], .inl ⟨hk, some (iO i), rfl, ?_⟩⟩
      rw [List.take_succ, List.take_succ, List.foldl_append, List.foldl_append, List.getElem?_eq_getElem il, List.getElem?_eq_getElem (by omega), List.getElem_zipWith]
      rfl
  rw [len] at h2
  rcases h2 with ⟨y12, hy, rfl⟩ | h2
  · refine ⟨y12, hy, ?_⟩
    rw [st_loop (ds := range1 0 ((x :: rows).length : Int)) (e1 := en v st x2 x3 x4 x5 x6 (some (lR (x :: rows))) (some (.lst (more.map rO2))) x9 (some (rO2 x)) (some (rO2 (0, 1))) x12 x13 x14), h1]
    · rw [Nat.zero_add, List.take_of_length_le (Nat.le_refl _), List.take_of_length_le (by rw [hzl]; exact Nat.le_refl _), List.foldl_cons, bst_self]
      rfl
    · exact evI_len h5 _ rfl
  · exact h2.elim
theorem e15_ok {x : Int × Int} {rows more : List (Int × Int)} (hr : ∀ y ∈ x :: rows, Q 30 y) (hm : ∀ y ∈ more, Q 30 y) (hl : more.length = (x :: rows).length) (h5 : (x :: rows).length ≤ 5) :
    DL.st P21 t15 (en v st x2 x3 x4 x5 x6 (some (lR (x :: rows))) (some (.lst (more.map rO2))) x9 (some (rO2 (rows.foldl bst x))) (some (rO2 (sumR (List.zipWith tms (x :: rows) more)))) x12 x13 x14) = .nx (en v st x2 x3 x4 x5 x6 (some (lR (x :: rows))) (some (lR more)) x9 (some (rO2 (rows.foldl bst x))) (some (rO2 (sumR (List.zipWith tms (x :: rows) more)))) x12 x13 x14) := by
  have hz := zw_Q (x :: rows) more hr hm
  have hzl : (List.zipWith tms (x :: rows) more).length = (x :: rows).length := by simp [hl]
  have hr6 : ∀ y ∈ x :: rows, Q 60 y := fun y hy => (hr y hy).mono (by decide)
  have q1 := r8 x rows hr6
  have q2 := r9 (x :: rows) hr6 (by omega)
  have q3 := r10 (x :: rows) more hl.symm hr hm (by omega)
  have q4 := r18 (x :: rows) hr6 (by omega)
  have w1 : Q 60 (rows.foldl bst x) := foldl_Q rows x (hr6 x (by simp)) fun y hy => hr6 y (by simp [hy])
  have w2 : Q 400 (sumR (x :: rows)) := (sum_Q _ _ _ q01 hr6).mono (by omega)
  have w3 : Q 400 (sumR (List.zipWith tms (x :: rows) more)) := (sum_Q _ _ _ q01 hz).mono (by omega)
  generalize hB : rows.foldl bst x = b at q1 w1
  generalize hS : sumR (x :: rows) = s at q2 q4 w2
  generalize hT : sumR (List.zipWith tms (x :: rows) more) = t at q3 w3
  generalize x :: rows = R at q1 q2 q3 q4
  have hs := slotV_f (n := 8) (e := en v st x2 x3 x4 x5 x6 (some (lR R)) (some (.lst (more.map rO2))) x9 (some (rO2 b)) (some (rO2 t)) x12 x13 x14) rfl (fz_rO2 more)
  have q12 := r12 (o1 := .lst [rO2 b, rO2 s, rO2 t]) (o2 := .lst [rO2 b, rO2 s, rO2 t]) (d := .list [rD b, rD s, rD t]) rfl rfl
    (by simp only [gds, gd]; exact ⟨⟨lg20 w1.n (by decide), lg20 w1.d (by decide), trivial⟩, ⟨lg20 w2.n (by decide), lg20 w2.d (by decide), trivial⟩, ⟨lg20 w3.n (by decide), lg20 w3.d (by decide), trivial⟩, trivial⟩) (by simp [wt, wts]) (by simp [PyData.depth, PyData.depthAll])
  have s3 : 3 ≤ sizeLine := by decide
  generalize hL : lR more = LM at q3
  have hL' : O.val (.list (more.map rD)) = LM := hL
  rw [hL'] at hs
  generalize hM : O.lst (more.map rO2) = MM at hs
  have hLM : LM.fz = some (.list (more.map rD)) := by rw [← hL]; rfl
  rw [st_false (e1 := en v st x2 x3 x4 x5 x6 (some (lR R)) (some LM) x9 (some (rO2 b)) (some (rO2 t)) x12 x13 x14)]
  · rfl
  · simp [sts, DL.st, seqS, runM, ev, evs, evP, evO, evT, evTs, evI, evF, M.bind_def, pure_ok, of_ok', slotV_v, slotP_s, pn_var, pnOf, rd_o, rd_lm, rd_s, rdv_v, rdv_l, rdAll, fz_v, O.fzAll, valsOf, toD, fzAllM, b_add, b_sub, b_mul, b_fdiv, b_mod, b_cat, c_eq, c_ne, c_eqs, c_lt, c_le, c_gt, c_ge, t_bl, it_l, g_l, g_t, k_lenT, k_lenL, k_abs, k_int, k_intb, k_max, k_min, k_str, asgD, asgAll, callM, getAll, setAll, chkSlots, chkLst, asInt, atI_0, atI_1, size2, size1, P21, q1, q2, q3, q4, hs, q12, s3]
theorem e16_ok {p : Int × Int} (hp : Q 30 p) : DL.st P21 t16 (en v st x2 x3 x4 (some (rO2 p)) x6 x7 x8 x9 x10 x11 x12 x13 x14) = .nx (en v st x2 x3 x4 (some (rO2 p)) x6 x7 x8 x9 x10 x11 x12 (some (.val (.str (toString p.1)))) x14) := by
  have h1 := lg20 hp.n (by decide)
  simp [sts, DL.st, seqS, runM, ev, evs, evP, evO, evT, evTs, evI, evF, M.bind_def, pure_ok, of_ok', slotV_v, slotP_s, pn_var, pnOf, rd_o, rd_lm, rd_s, rdv_v, rdv_l, rdAll, fz_v, O.fzAll, valsOf, toD, fzAllM, b_add, b_sub, b_mul, b_fdiv, b_mod, b_cat, c_eq, c_ne, c_eqs, c_lt, c_le, c_gt, c_ge, t_bl, it_l, g_l, g_t, k_lenT, k_lenL, k_abs, k_int, k_intb, k_max, k_min, k_str, asgD, asgAll, callM, getAll, setAll, chkSlots, chkLst, asInt, atI_0, atI_1, size2, size1, h1]
theorem e17_ok {p : Int × Int} (hp : Q 30 p) : DL.st P21 t17 (en v st x2 x3 x4 (some (rO2 p)) x6 x7 x8 x9 x10 x11 x12 (some (.val (.str (toString p.1)))) x14) = .nx (en v st x2 x3 x4 (some (rO2 p)) x6 x7 x8 x9 x10 x11 x12 (some (.val (.str (txt p)))) x14) := by
  have h1 := lg20 hp.n (by decide)
  have h2 := lg20 hp.d (by decide)
  have l1 := int_len h1
  have l2 := int_len h2
  have sl := slL
  unfold txt
  by_cases hz : p.2 = 1
  · simp [sts, DL.st, seqS, runM, ev, evs, evP, evO, evT, evTs, evI, evF, M.bind_def, pure_ok, of_ok', slotV_v, slotP_s, pn_var, pnOf, rd_o, rd_lm, rd_s, rdv_v, rdv_l, rdAll, fz_v, O.fzAll, valsOf, toD, fzAllM, b_add, b_sub, b_mul, b_fdiv, b_mod, b_cat, c_eq, c_ne, c_eqs, c_lt, c_le, c_gt, c_ge, t_bl, it_l, g_l, g_t, k_lenT, k_lenL, k_abs, k_int, k_intb, k_max, k_min, k_str, asgD, asgAll, callM, getAll, setAll, chkSlots, chkLst, asInt, atI_0, atI_1, size2, size1, hz]
  · have c1 := b_cat (toString p.1 : Str) ("/" : Str) (by rw [slash_len]; omega)
    have c2 := b_cat ((toString p.1 : Str) ++ ("/" : Str)) (toString p.2 : Str) (by rw [Str.length_append, slash_len]; omega)
    have k2 := k_str p.2 h2
    generalize (toString p.1 : Str) = X at c1 c2
    generalize hY : (toString p.2 : Str) = Y at c2 k2
    rw [if_neg hz]
    simp [sts, DL.st, seqS, runM, ev, evs, evP, evO, evT, evTs, evI, evF, M.bind_def, pure_ok, of_ok', slotV_v, slotP_s, pn_var, pnOf, rd_o, rd_lm, rd_s, rdv_v, rdv_l, rdAll, fz_v, O.fzAll, valsOf, toD, fzAllM, b_add, b_sub, b_mul, b_fdiv, b_mod, b_cat, c_eq, c_ne, c_eqs, c_lt, c_le, c_gt, c_ge, t_bl, it_l, g_l, g_t, k_lenT, k_lenL, k_abs, k_int, k_intb, k_max, k_min, k_str, asgD, asgAll, callM, getAll, setAll, chkSlots, chkLst, asInt, atI_0, atI_1, size2, size1, hz, c1, c2, k2]
theorem okS_txt (p : Int × Int) : okS (txt p) := by
  unfold txt
  split
  · exact okS_of _
  · exact okS_append (okS_append (okS_of _) (okS_of _)) (okS_of _)
theorem len_txt {p : Int × Int} (hp : Q 30 p) : (txt p).length ≤ 4000 := by
  have l1 := int_len (lg20 hp.n (by decide))
  have l2 := int_len (lg20 hp.d (by decide))
  unfold txt
  split
  · omega
  · rw [Str.length_append, Str.length_append, slash_len]; omega
theorem e18_ok {p : Int × Int} (hp : Q 30 p) : DL.st P21 t18 (en v st x2 x3 x4 (some (rO2 p)) x6 x7 x8 x9 x10 x11 x12 (some (.val (.str (txt p)))) x14) = .nx (en v st x2 x3 x4 (some (rO2 p)) x6 x7 x8 x9 x10 x11 x12 (some (.val (.str (txt p)))) x14) := by
  have q1 := r11 p hp (by decide)
  have q12 := r12 (o1 := .val (.str (txt p))) (o2 := .val (.str (txt p))) (d := .str (txt p)) rfl rfl (by simp only [gd]; exact okS_txt p) (by have := len_txt hp; simp only [wt]; omega) (by simp [PyData.depth])
  rw [st_false (e1 := en v st x2 x3 x4 (some (rO2 p)) x6 x7 x8 x9 x10 x11 x12 (some (.val (.str (txt p)))) x14)]
  · rfl
  · simp [sts, DL.st, seqS, runM, ev, evs, evP, evO, evT, evTs, evI, evF, M.bind_def, pure_ok, of_ok', slotV_v, slotP_s, pn_var, pnOf, rd_o, rd_lm, rd_s, rdv_v, rdv_l, rdAll, fz_v, O.fzAll, valsOf, toD, fzAllM, b_add, b_sub, b_mul, b_fdiv, b_mod, b_cat, c_eq, c_ne, c_eqs, c_lt, c_le, c_gt, c_ge, t_bl, it_l, g_l, g_t, k_lenT, k_lenL, k_abs, k_int, k_intb, k_max, k_min, k_str, asgD, asgAll, callM, getAll, setAll, chkSlots, chkLst, asInt, atI_0, atI_1, size2, size1, P21, q1, q12]
end
end K01
namespace K01
open PySem PySem.Spec PyProof.Rows L2 DL
/-! ### the whole law -/
/-- what holds before each turn -/
def LI (v : O) (nums : List Int) (m : Int) (e : DEnv) : Prop := ∃ (c : Int) (x2 x3 x4 x5 x6 x7 x8 x9 x10 x11 x12 x13 x14 : Option O), 0 ≤ c ∧ c ≤ m ∧ isVal (some x12) = true ∧ isVal (some x14) = true ∧ e = en v (St nums c) x2 x3 x4 x5 x6 x7 x8 x9 x10 x11 x12 x13 x14
theorem turn_ok {nums : List Int} (hn : Nm nums) (v : O) {m : Int} (hm : m ≤ 700000) (e : DEnv) (d : PyData) (h : LI v nums m e) : ∃ e1 e2, asgD (.name 2) d e = .ok () e1 ∧ sts P21 tB e1 = .nx e2 ∧ LI v nums (m + 60) e2 := by
  obtain ⟨c, x2, x3, x4, x5, x6, x7, x8, x9, x10, x11, x12, x13, x14, h0, hc, i12, i14, rfl⟩ := h
  obtain ⟨a, ha, s1⟩ := e1_ok hn v h0 (by omega) (some (.val d)) x3 x4 x5 x6 x7 x8 x9 x10 x11 x12 x13 x14
  obtain ⟨b, hb, hz, s2⟩ := e2_ok hn v (c := c + 1) (by omega) (by omega) (some (.val d)) (some (iO a)) x4 x5 x6 x7 x8 x9 x10 x11 x12 x13 x14
  obtain ⟨p, hp, hg, s3⟩ := e3_ok hn v (c := c + 1 + 3) (by omega) (by omega) (some (.val d)) (some (iO a)) (some (iO b)) x5 x6 x7 x8 x9 x10 x11 x12 x13 x14
  obtain ⟨q, hq, s4⟩ := e4_ok hn v (c := c + 1 + 3 + 3) (by omega) (by omega) (some (.val d)) (some (iO a)) (some (iO b)) (some (rO2 p)) x6 x7 x8 x9 x10 x11 x12 x13 x14
  obtain ⟨R, c5, r0, r5, hr, c51, c52, s5⟩ := e5_ok hn v (c := c + 1 + 3 + 3 + 3) (by omega) (by omega) (some (.val d)) (some (iO a)) (some (iO b)) (some (rO2 p)) (some (rO2 q)) x7 x8 x9 x10 x11 x12 x13 x14 i12
  obtain ⟨more, c6, hl, hmo, c61, c62, s6⟩ := e6_ok hn v (c := c5) (by omega) (by omega) (some (.val d)) (some (iO a)) (some (iO b)) (some (rO2 p)) (some (rO2 q)) x8 x9 x10 x11 x12 x13 x14 r5 i14
  have s7 := e7_ok v (St nums c6) (some (.val d)) (some (rO2 q)) (some (lR R)) (some (.lst (more.map rO2))) x9 x10 x11 x12 x13 x14 ha hb hz hp hg
  have s8 := e8_ok v (St nums c6) (some (.val d)) (some (iO a)) (some (iO b)) (some (lR R)) (some (.lst (more.map rO2))) x9 x10 x11 x12 x13 x14 hp hq
  have s9 := e9_ok v (St nums c6) (some (.val d)) (some (iO a)) (some (iO b)) (some (lR R)) (some (.lst (more.map rO2))) x10 x11 x12 x13 x14 hp hq
  have s10 := e10_ok v (St nums c6) (some (.val d)) (some (iO a)) (some (iO b)) (some (lR R)) (some (.lst (more.map rO2))) (some (.val (.list (dueL p q)))) x10 x11 x12 x13 x14 hp hq
  cases R with
  | nil => exact absurd r0 (by decide)
  | cons x rows =>
    have s11 := e11_ok v (St nums c6) (some (.val d)) (some (iO a)) (some (iO b)) (some (rO2 p)) (some (rO2 q)) (some (.lst (more.map rO2))) (some (.val (.list (dueL p q)))) x10 x11 x12 x13 x14 (x := x) (rows := rows)
    have s12 := e12_ok v (St nums c6) (some (.val d)) (some (iO a)) (some (iO b)) (some (rO2 p)) (some (rO2 q)) (some (lR (x :: rows))) (some (.lst (more.map rO2))) (some (.val (.list (dueL p q)))) (some (rO2 x)) x11 x12 x13 x14
    obtain ⟨y12, iy, s13⟩ := e13_ok v (St nums c6) (some (.val d)) (some (iO a)) (some (iO b)) (some (rO2 p)) (some (rO2 q)) (some (.val (.list (dueL p q)))) x12 x13 x14 hr hmo hl r5 i12
    have s15 := e15_ok v (St nums c6) (some (.val d)) (some (iO a)) (some (iO b)) (some (rO2 p)) (some (rO2 q)) (some (.val (.list (dueL p q)))) y12 x13 x14 hr hmo hl r5
    have s16 := fun x7 x8 x9 x10 x11 => e16_ok v (St nums c6) (some (.val d)) (some (iO a)) (some (iO b)) (some (rO2 q)) x7 x8 x9 x10 x11 y12 x13 x14 hp
    have s17 := fun x7 x8 x9 x10 x11 => e17_ok v (St nums c6) (some (.val d)) (some (iO a)) (some (iO b)) (some (rO2 q)) x7 x8 x9 x10 x11 y12 x14 hp
    have s18 := fun x7 x8 x9 x10 x11 => e18_ok v (St nums c6) (some (.val d)) (some (iO a)) (some (iO b)) (some (rO2 q)) x7 x8 x9 x10 x11 y12 x14 hp
    refine ⟨_, en v (St nums c6) (some (.val d)) (some (iO a)) (some (iO b)) (some (rO2 p)) (some (rO2 q)) (some (lR (x :: rows))) (some (lR more)) (some (.val (.list (dueL p q)))) (some (rO2 (rows.foldl bst x))) (some (rO2 (sumR (List.zipWith tms (x :: rows) more)))) y12 (some (.val (.str (txt p)))) x14, show asgD (.name 2) d _ = .ok () (en v (St nums c) (some (.val d)) x3 x4 x5 x6 x7 x8 x9 x10 x11 x12 x13 x14) by simp [sts, DL.st, seqS, runM, ev, evs, evP, evO, evT, evTs, evI, evF, M.bind_def, pure_ok, of_ok', slotV_v, slotP_s, pn_var, pnOf, rd_o, rd_lm, rd_s, rdv_v, rdv_l, rdAll, fz_v, O.fzAll, valsOf, toD, fzAllM, b_add, b_sub, b_mul, b_fdiv, b_mod, b_cat, c_eq, c_ne, c_eqs, c_lt, c_le, c_gt, c_ge, t_bl, it_l, g_l, g_t, k_lenT, k_lenL, k_abs, k_int, k_intb, k_max, k_min, k_str, asgD, asgAll, callM, getAll, setAll, chkSlots, chkLst, asInt, atI_0, atI_1, size2, size1], ?_, ?_⟩
    · rw [sts_nx s1, sts_nx s2, sts_nx s3, sts_nx s4, sts_nx s5, sts_nx s6, sts_nx s7, sts_nx s8, sts_nx s9, sts_nx s10, sts_nx s11, sts_nx s12, sts_nx s13, sts_nx s15, sts_nx (s16 _ _ _ _ _), sts_nx (s17 _ _ _ _ _), sts_nx (s18 _ _ _ _ _), sts_nil]
    · exact ⟨c6, _, _, _, _, _, _, _, _, _, _, _, _, _, by omega, by omega, iy, i14, rfl⟩
theorem law_run (ns : List Int) : (d_law.df.sem P21).run [.val (.list (ns.map PyData.int))] = .ok (.val (.bool true)) [] := by
  obtain ⟨nums, hn, h13⟩ := r13 ns
  obtain ⟨v, hv⟩ : ∃ v : O, v = .val (.list (ns.map PyData.int)) := ⟨_, rfl⟩
  rw [← hv] at h13 ⊢
  obtain ⟨e', h1, h2⟩ := for_inv (fs := asgD (.name 2)) (body := sts P21 tB) (fun i e => LI v nums (60 * i) e) (fun _ => False) (range1 0 12) 0 (en v (St nums 0) none none none none none none none none none none none none none) ⟨0, _, _, _, _, _, _, _, _, _, _, _, _, _, by omega, by omega, rfl, rfl, rfl⟩ fun i d e hd hi => by
    obtain ⟨hi5, _⟩ := range1_inv hd
    rw [Nat.zero_add] at hi ⊢
    obtain ⟨e1, e2, q1, q2, q3⟩ := turn_ok hn v (by omega) e d hi
    exact ⟨e1, e2, q1, .inl ⟨q2, by rw [show (60 : Int) * ((i + 1 : Nat) : Int) = 60 * (i : Int) + 60 by omega]; exact q3⟩⟩
  have hrg := rng_ok 12 (by decide) (by decide)
  refine sem_rt (e := e') rfl ?_ rfl
  show sts P21 d_law_b (en v v none none none none none none none none none none none none none |>.set 1 none) = _
  rw [law_b_eq, sts_nx (e1 := en v (St nums 0) none none none none none none none none none none none none none) ?_, sts_nx (e1 := e') ?_]
  · simp [sts, DL.st, seqS, runM, ev, evs, evP, evO, evT, evTs, evI, evF, M.bind_def, pure_ok, of_ok', slotV_v, slotP_s, pn_var, pnOf, rd_o, rd_lm, rd_s, rdv_v, rdv_l, rdAll, fz_v, O.fzAll, valsOf, toD, fzAllM, b_add, b_sub, b_mul, b_fdiv, b_mod, b_cat, c_eq, c_ne, c_eqs, c_lt, c_le, c_gt, c_ge, t_bl, it_l, g_l, g_t, k_lenT, k_lenL, k_abs, k_int, k_intb, k_max, k_min, k_str, asgD, asgAll, callM, getAll, setAll, chkSlots, chkLst, asInt, atI_0, atI_1, size2, size1]
  · rw [st_loop (ds := range1 0 12) (e1 := en v (St nums 0) none none none none none none none none none none none none none)]
    · exact h1
    · simp [sts, DL.st, seqS, runM, ev, evs, evP, evO, evT, evTs, evI, evF, M.bind_def, pure_ok, of_ok', slotV_v, slotP_s, pn_var, pnOf, rd_o, rd_lm, rd_s, rdv_v, rdv_l, rdAll, fz_v, O.fzAll, valsOf, toD, fzAllM, b_add, b_sub, b_mul, b_fdiv, b_mod, b_cat, c_eq, c_ne, c_eqs, c_lt, c_le, c_gt, c_ge, t_bl, it_l, g_l, g_t, k_lenT, k_lenL, k_abs, k_int, k_intb, k_max, k_min, k_str, asgD, asgAll, callM, getAll, setAll, chkSlots, chkLst, asInt, atI_0, atI_1, size2, size1, hrg]
  · have hf : v.fz = some (.list (ns.map PyData.int)) := by rw [hv]; rfl
    have hs := slotV_v (n := 0) (d := .list (ns.map PyData.int)) (e := [some v, none, none, none, none, none, none, none, none, none, none, none, none, none, none]) (by rw [hv]; rfl)
    rw [← hv] at hs
    simp [sts, DL.st, seqS, runM, ev, evs, evP, evO, evT, evTs, evI, evF, M.bind_def, pure_ok, of_ok', slotV_v, slotP_s, pn_var, pnOf, rd_o, rd_lm, rd_s, rdv_v, rdv_l, rdAll, fz_v, O.fzAll, valsOf, toD, fzAllM, b_add, b_sub, b_mul, b_fdiv, b_mod, b_cat, c_eq, c_ne, c_eqs, c_lt, c_le, c_gt, c_ge, t_bl, it_l, g_l, g_t, k_lenT, k_lenL, k_abs, k_int, k_intb, k_max, k_min, k_str, asgD, asgAll, callM, getAll, setAll, chkSlots, chkLst, asInt, atI_0, atI_1, size2, size1, hs, P21, h13]
theorem law_true : ∀ ns : List Int, ns.length ≤ 63 → (∀ z ∈ ns, Builtin.Int.intBits z ≤ 1048576) → φ.run [.val (.list (ns.map PyData.int))] = .ok (.val (.bool true)) [] := fun ns _ _ => law_run ns
end K01
open PySem PySem.W PyProof.Rows
set_option maxHeartbeats 0 in
theorem PySem.Challenge.cw_linesalike_k01_ratios_holds : PySem.Challenge.rw_linesalike_k01_ratios.Holds := by
  w_on; o_law; k_head; (case hw => w_witness2)
  k_fill
  refine DL.walk_dl (l := PySem.Challenge.rw_linesalike_k01_ratios) (n := 63) (k := 22) (x := "script") (φ := K01.φ) rfl (by decide) rfl ⟨rfl, by decide, by decide⟩ (fun w h Y => PySem.W.kIn_of Y) ?F K01.law_true
  case F =>
    intro w mg fa h KX G hmg0
    have hmg : mg ("law" : Str) = some (.ref fa) := hmg0
    clear hmg0
    refine' K01.all_mk KX G hmg ?a0 ?l0 ?c0 ?k0 ?a1 ?l1 ?c1 ?k1 ?a2 ?l2 ?c2 ?k2 ?a3 ?l3 ?c3 ?k3 ?a4 ?l4 ?c4 ?k4 ?a5 ?l5 ?c5 ?k5 ?a6 ?l6 ?c6 ?k6 ?a7 ?l7 ?c7 ?k7 ?a8 ?l8 ?c8 ?k8 ?a9 ?l9 ?c9 ?k9 ?a10 ?l10 ?c10 ?k10 ?a11 ?l11 ?c11 ?k11 ?a12 ?l12 ?c12 ?k12 ?a13 ?l13 ?c13 ?k13 ?a14 ?l14 ?c14 ?k14 ?a15 ?l15 ?c15 ?k15 ?a16 ?l16 ?c16 ?k16 ?a17 ?l17 ?c17 ?k17 ?a18 ?l18 ?c18 ?k18 ?a19 ?l19 ?c19 ?k19 ?a20 ?l20 ?c20 ?k20 ?a21 ?l21 ?c21 ?k21 ?xa0 ?xe0 ?xk0 ?xs0 ?xt0 ?z0 ?z1 ?z2 ?z3 ?z4 ?z5 ?z6 ?z7
    (case a0 => k_is); (case l0 => k_is); (case c0 => k_is); (case k0 => k_is); (case a1 => k_is); (case l1 => k_is); (case c1 => k_is); (case k1 => k_is); (case a2 => k_is); (case l2 => k_is); (case c2 => k_is); (case k2 => k_is); (case a3 => k_is); (case l3 => k_is); (case c3 => k_is); (case k3 => k_is); (case a4 => k_is); (case l4 => k_is); (case c4 => k_is); (case k4 => k_is); (case a5 => k_is); (case l5 => k_is); (case c5 => k_is); (case k5 => k_is); (case a6 => k_is); (case l6 => k_is); (case c6 => k_is); (case k6 => k_is); (case a7 => k_is); (case l7 => k_is); (case c7 => k_is); (case k7 => k_is); (case a8 => k_is); (case l8 => k_is); (case c8 => k_is); (case k8 => k_is); (case a9 => k_is); (case l9 => k_is); (case c9 => k_is); (case k9 => k_is); (case a10 => k_is); (case l10 => k_is); (case c10 => k_is); (case k10 => k_is); (case a11 => k_is); (case l11 => k_is); (case c11 => k_is); (case k11 => k_is); (case a12 => k_is); (case l12 => k_is); (case c12 => k_is); (case k12 => k_is); (case a13 => k_is); (case l13 => k_is); (case c13 => k_is); (case k13 => k_is); (case a14 => k_is); (case l14 => k_is); (case c14 => k_is); (case k14 => k_is); (case a15 => k_is); (case l15 => k_is); (case c15 => k_is); (case k15 => k_is); (case a16 => k_is); (case l16 => k_is); (case c16 => k_is); (case k16 => k_is); (case a17 => k_is); (case l17 => k_is); (case c17 => k_is); (case k17 => k_is); (case a18 => k_is); (case l18 => k_is); (case c18 => k_is); (case k18 => k_is); (case a19 => k_is); (case l19 => k_is); (case c19 => k_is); (case k19 => k_is); (case a20 => k_is); (case l20 => k_is); (case c20 => k_is); (case k20 => k_is); (case a21 => k_is); (case l21 => k_is); (case c21 => k_is); (case k21 => k_is); (case xa0 => k_is); (case xe0 => k_exc); (case xk0 => k_is); (case xs0 => k_is); (case xt0 => k_is); (case z0 => k_is); (case z1 => k_is); (case z2 => k_is); (case z3 => k_is); (case z4 => k_is); (case z5 => k_is); (case z6 => k_is); (case z7 => k_is)
