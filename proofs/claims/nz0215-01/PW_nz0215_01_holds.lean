import PyProof.Rows.All
import PyProof.FactsAll.int_2
import PyProof.ExcBaseAll.ValueError
import PyProof.FString3
import PyProof.InstStoreFacts
import PyProof.Rows.StrIntSpec
import KE.KIsAll
import Wide.FinOn
import OpenK.AllK
import Wide.All
import Lean
import PySem.Challenge.RW_nz0215_01
open PySem PySem.W PyProof.Rows
set_option Elab.async false
set_option linter.all false
set_option maxRecDepth 100000
set_option maxHeartbeats 0
namespace Mine
section
inductive Res where
  | ok (r : PySem.Result) (c : Code) (p : Pos) (T : BT) (n toks k : Nat)
  | susp (d : Code) (gd : Bool) (lv : List Value) (g : PySem.Result → Sem Fin) (c : Code) (p : Pos) (T : BT) (n toks k : Nat)
  | again (d : Code) (c : Code) (p : Pos) (T : BT) (n toks k : Nat)
  | err
noncomputable abbrev EvT := Code → List (Code × Pos) → Sem Fin → Pos → BT → Nat → Nat → Nat → Res
noncomputable def noLife (c : Code) : Bool := match c with
  | .builtin id _ => !id.startsWith "lifetime."
  | _ => true
noncomputable def ev (den : Code → Sem Fin) (S : Setting) (n₀ : Nat) (ann : Option Value) (stop : Code → Bool) (fuel : Nat) : EvT :=
  @Nat.rec (fun _ => EvT) (fun _ _ _ _ _ _ _ _ => .err) (fun _ ih c b t p T n tk k => match t with
    | .pure (.done fl) => .ok (.ok fl) c p T n tk k
    | .raise e => .ok (.error e) c p T n tk k
    | .pure (.again d) => match noLife d with
      | true => match stop d with
        | true => .again d c p T n tk k
        | false => ih d b (den d) p T n tk (Nat.succ k)
      | false => .err
    | .rule _ g => ih c b (g ()) p T n tk (Nat.succ k)
    | .at q g => ih c b (g ()) q T n tk (Nat.succ k)
    | .point _ g => ih c b (g ()) p T n tk (Nat.succ k)
    | .fresh g => ih c b (g tk) p T n (Nat.succ tk) (Nat.succ k)
    | .ask g => ih c b (g S) p T n tk (Nat.succ k)
    | .stack g => ih c b (g ((c, p) :: b)) p T n tk (Nat.succ k)
    | .handled _ g => ih c b (g none) p T n tk (Nat.succ k)
    | .thread g => ih c b (g 0) p T n tk (Nat.succ k)
    | .load a _ g => match Nat.blt a n with
      | true => match T.get a with
        | some o => match alive o with
          | some o' => ih c b (g o') p T n tk (Nat.succ k)
          | none => .err
        | none => .err
      | false => .err
    | .loadIfAlive a g => match Nat.blt a n with
      | true => match T.get a with
        | some o => ih c b (g (alive o)) p T n tk (Nat.succ k)
        | none => .err
      | false => ih c b (g none) p T n tk (Nat.succ k)
    | .update a _ u g => match Nat.blt a n with
      | true => match T.get a with
        | some o => match alive o with
          | some _ => match Nat.ble n₀ a || a == mainNs || a == cStatics || ann == some (.ref a) with
            | true => ih c b (g ()) p (T.set a u) n tk (Nat.succ k)
            | false => .err
          | none => .err
        | none => .err
      | false => .err
    | .alloc o g => match ((T.ins n o).get n).isSome with
      | true => ih c b (g n) p (T.ins n o) (Nat.succ n) tk (Nat.succ k)
      | false => .err
    | .call d h gd lv g => match h with
      | none => match stop d with
        | true => .susp d gd lv g c p T n tk k
        | false => match ih d ((c, p) :: b) (den d) p T n tk (Nat.succ k) with
          | .ok r _ _ T' n' tk' k' => ih c b (g r) p T' n' tk' (Nat.succ k')
          | _ => .err
      | some _ => .err
    | _ => .err) fuel
theorem ev_succ (den : Code → Sem Fin) (S : Setting) (n₀ : Nat) (ann : Option Value) (stop : Code → Bool) (f : Nat) (c : Code) (b : List (Code × Pos)) (t : Sem Fin) (p : Pos) (T : BT) (n tk k : Nat) :
    ev den S n₀ ann stop (f + 1) c b t p T n tk k = match t with
    | .pure (.done fl) => .ok (.ok fl) c p T n tk k
    | .raise e => .ok (.error e) c p T n tk k
    | .pure (.again d) => match noLife d with
      | true => match stop d with
        | true => .again d c p T n tk k
        | false => ev den S n₀ ann stop f d b (den d) p T n tk (Nat.succ k)
      | false => .err
    | .rule _ g => ev den S n₀ ann stop f c b (g ()) p T n tk (Nat.succ k)
    | .at q g => ev den S n₀ ann stop f c b (g ()) q T n tk (Nat.succ k)
    | .point _ g => ev den S n₀ ann stop f c b (g ()) p T n tk (Nat.succ k)
    | .fresh g => ev den S n₀ ann stop f c b (g tk) p T n (Nat.succ tk) (Nat.succ k)
    | .ask g => ev den S n₀ ann stop f c b (g S) p T n tk (Nat.succ k)
    | .stack g => ev den S n₀ ann stop f c b (g ((c, p) :: b)) p T n tk (Nat.succ k)
    | .handled _ g => ev den S n₀ ann stop f c b (g none) p T n tk (Nat.succ k)
    | .thread g => ev den S n₀ ann stop f c b (g 0) p T n tk (Nat.succ k)
    | .load a _ g => match Nat.blt a n with
      | true => match T.get a with
        | some o => match alive o with
          | some o' => ev den S n₀ ann stop f c b (g o') p T n tk (Nat.succ k)
          | none => .err
        | none => .err
      | false => .err
    | .loadIfAlive a g => match Nat.blt a n with
      | true => match T.get a with
        | some o => ev den S n₀ ann stop f c b (g (alive o)) p T n tk (Nat.succ k)
        | none => .err
      | false => ev den S n₀ ann stop f c b (g none) p T n tk (Nat.succ k)
    | .update a _ u g => match Nat.blt a n with
      | true => match T.get a with
        | some o => match alive o with
          | some _ => match Nat.ble n₀ a || a == mainNs || a == cStatics || ann == some (.ref a) with
            | true => ev den S n₀ ann stop f c b (g ()) p (T.set a u) n tk (Nat.succ k)
            | false => .err
          | none => .err
        | none => .err
      | false => .err
    | .alloc o g => match ((T.ins n o).get n).isSome with
      | true => ev den S n₀ ann stop f c b (g n) p (T.ins n o) (Nat.succ n) tk (Nat.succ k)
      | false => .err
    | .call d h gd lv g => match h with
      | none => match stop d with
        | true => .susp d gd lv g c p T n tk k
        | false => match ev den S n₀ ann stop f d ((c, p) :: b) (den d) p T n tk (Nat.succ k) with
          | .ok r _ _ T' n' tk' k' => ev den S n₀ ann stop f c b (g r) p T' n' tk' (Nat.succ k')
          | _ => .err
      | some _ => .err
    | _ => .err := rfl
noncomputable def QF : List Frame → Prop
  | [] => True
  | .ret _ h _ _ _ _ _ :: r => h = none ∧ QF r
  | .gen .. :: _ => False
theorem QF.top (l : List Frame) (h : QF l) : topHandled.go false l = none := by
  induction l with
  | nil => rfl
  | cons f r ih =>
    cases f with
    | ret k hd g lv c p kp => obtain ⟨e, q⟩ := h; subst e; simp only [topHandled.go]; exact ih q
    | gen => exact h.elim
theorem QF.split (l : List Frame) (h : QF l) : splitAtGen l = none := by
  induction l with
  | nil => rfl
  | cons f r ih =>
    cases f with
    | ret k hd g lv c p kp => obtain ⟨_, q⟩ := h; simp only [splitAtGen, ih q, Option.map_none]
    | gen => exact h.elim
inductive Path (p : Program) (w : World) (n₀ : Nat) (ann : Option Value) (m : Nat) : Nat → Shared → Thread → Shared → Thread → Prop
  | nil {s t} : Path p w n₀ ann m 0 s t s t
  | cons {d s t s₁ t₁ s' t'} : m ≤ t.stack.length → (t.stack.length = m → ∀ f, t.cur ≠ .pure (.done f)) → stepOk n₀ ann t = true → step (denote treeTable) p w s t = .go s₁ t₁ →
      Path p w n₀ ann m d s₁ t₁ s' t' → Path p w n₀ ann m (d + 1) s t s' t'
section
variable {p : Program} {w : World} {n₀ : Nat} {ann : Option Value} {m : Nat}
theorem Path.trans {d e : Nat} {s s₁ s' : Shared} {t t₁ t' : Thread} (x : Path p w n₀ ann m d s t s₁ t₁) (y : Path p w n₀ ann m e s₁ t₁ s' t') : Path p w n₀ ann m (d + e) s t s' t' := by
  induction x with
  | nil => rw [Nat.zero_add]; exact y
  | cons a b c d _ ih => rw [Nat.add_right_comm]; exact .cons a b c d (ih y)
theorem Path.one {s s₁ : Shared} {t t₁ : Thread} (a : m ≤ t.stack.length) (b : t.stack.length = m → ∀ f, t.cur ≠ .pure (.done f)) (c : stepOk n₀ ann t = true) (e : step (denote treeTable) p w s t = .go s₁ t₁) :
    Path p w n₀ ann m 1 s t s₁ t₁ := .cons a b c e .nil
theorem Path.weaken {m' d : Nat} {s s' : Shared} {t t' : Thread} (x : Path p w n₀ ann (m + 1) d s t s' t') (h : m' ≤ m) : Path p w n₀ ann m' d s t s' t' := by
  induction x with
  | nil => exact .nil
  | cons a b c e _ ih => exact .cons (by omega) (by omega) c e ih
theorem Path.top {d : Nat} {s s' : Shared} {t t' : Thread} (x : Path p w n₀ ann m d s t s' t') {N : Nat} {r : Shared} (h : topRun treeTable p w n₀ ann N s' t' = some r) : topRun treeTable p w n₀ ann (d + N) s t = some r := by
  induction x with
  | nil => rw [Nat.zero_add]; exact h
  | @cons d s t s₁ t₁ s' t' a b c e _ ih =>
    rw [show d + 1 + N = d + N + 1 by omega]
    unfold topRun
    have : through t = false := by
      obtain ⟨cur, code, pos, st⟩ := t
      cases st with
      | nil =>
        have hm : m = 0 := Nat.le_zero.mp a
        have := b hm.symm
        cases cur with
        | pure f => cases f with
          | done f => exact absurd rfl (this f)
          | again => rfl
        | _ => rfl
      | cons => rfl
    rw [this, c, e]
    exact ih h
theorem Path.seg {d : Nat} {s s' : Shared} {t t' : Thread} (x : Path p w n₀ ann m d s t s' t') {N : Nat} {r : Flow × Shared × Code × Pos} (h : segRun treeTable p w n₀ ann m N s' t' = some r) : segRun treeTable p w n₀ ann m (d + N) s t = some r := by
  induction x with
  | nil => rw [Nat.zero_add]; exact h
  | @cons d s t s₁ t₁ s' t' a b c e _ ih =>
    rw [show d + 1 + N = d + N + 1 by omega]
    unfold segRun
    have : endAt m t = none := by
      obtain ⟨cur, code, pos, st⟩ := t
      unfold endAt
      dsimp only at a b ⊢
      cases q : st.length == m with
      | false => rfl
      | true =>
        have := b (beq_iff_eq.mp q)
        cases cur with
        | pure f => cases f with
          | done f => exact absurd rfl (this f)
          | again => rfl
        | _ => rfl
    rw [this, c, e]
    exact ih h
end
theorem absHeap_get {T : BT} {n : Nat} {life : Life} {a : Nat} {o : Obj} (h : Nat.blt a n = true) (g : T.get a = some o) : (absHeap T n life).get? a = alive o :=
  abs_get (Nat.le_of_ble_eq_true h) g
inductive SameFr : List Frame → List Frame → Prop
  | same {l} : SameFr l l
  | head {k h g lv c p a b r} : SameFr (.ret k h g lv c p a :: r) (.ret k h g lv c p b :: r)
theorem SameFr.trans {a b c : List Frame} (x : SameFr a b) (y : SameFr b c) : SameFr a c := by
  cases x with
  | same => exact y
  | head => cases y <;> exact .head
theorem SameFr.len {a b : List Frame} (x : SameFr a b) : b.length = a.length := by cases x <;> rfl
theorem SameFr.at_ {a b : List Frame} (x : SameFr a b) : b.map Frame.where_ = a.map Frame.where_ := by cases x <;> rfl
theorem SameFr.qf {a b : List Frame} (x : SameFr a b) (h : QF a) : QF b := by cases x <;> exact h
noncomputable abbrev fin (r : PySem.Result) : Sem Fin := match r with
  | .ok f => .pure (.done f)
  | .error e => .raise e
noncomputable abbrev sh (T : BT) (n : Nat) (life : Life) (gens : Array GenState) (drawn : Drawn) (tk : Nat) (os : OsState) : Shared := ⟨absHeap T n life, gens, drawn, tk, os⟩
theorem stepOk_of {n₀ : Nat} {ann : Option Value} {cur : Sem Fin} {c : Code} {pos : Pos} {st : List Frame}
    (h : (match cur with | .pure (.again d) => noLife d | .update a _ _ _ => Nat.ble n₀ a || a == mainNs || a == cStatics || ann == some (.ref a) | .os .. | .fork .. | .await .. | .register .. | .yield .. => false | _ => true) = true) :
    stepOk n₀ ann ⟨cur, c, pos, st⟩ = true := by
  cases cur with
  | pure f => cases f with
    | done f => rfl
    | again d =>
      cases d with
      | builtin id args =>
        have h' : (!id.startsWith "lifetime.") = true := h
        simp only [Bool.not_eq_true'] at h'
        simp [stepOk, Thread.calm, Thread.atCollectorCode, Thread.yieldsInsideHandler, h']
      | _ => rfl
  | update a q u k => simpa [stepOk, Thread.calm, Thread.atCollectorCode, Thread.yieldsInsideHandler] using h
  | os | fork | await | register | yield => cases h
  | _ => rfl
noncomputable def After (p : Program) (w : World) (n₀ : Nat) (ann : Option Value) (stk : List Frame) (s : Shared) (t : Thread) (k : Nat) (life : Life) (gens : Array GenState) (drawn : Drawn) (os : OsState) : Res → Prop
  | .ok r c' pos' T' n' tk' k' => ∃ d stk', k' = k + d ∧ SameFr stk stk' ∧ Path p w n₀ ann stk.length d s t (sh T' n' life gens drawn tk' os) ⟨fin r, c', pos', stk'⟩
  | .susp d₀ gd lv g c' pos' T' n' tk' k' => ∃ d stk', k' = k + d ∧ SameFr stk stk' ∧ Path p w n₀ ann stk.length d s t (sh T' n' life gens drawn tk' os) ⟨.call d₀ none gd lv g, c', pos', stk'⟩
  | .again d₀ c' pos' T' n' tk' k' => noLife d₀ = true ∧ ∃ d stk', k' = k + d ∧ SameFr stk stk' ∧ Path p w n₀ ann stk.length d s t (sh T' n' life gens drawn tk' os) ⟨.pure (.again d₀), c', pos', stk'⟩
  | .err => True
section
variable {p : Program} {w : World} {n₀ : Nat} {ann : Option Value} {life : Life} {gens : Array GenState} {drawn : Drawn} {os : OsState}
theorem After.step {stk stk₁ : List Frame} {s s₁ : Shared} {cur cur₁ : Sem Fin} {c c₁ : Code} {pos pos₁ : Pos} {k : Nat} {res : Res} (nd : ∀ f, cur ≠ .pure (.done f)) (ok : stepOk n₀ ann ⟨cur, c, pos, stk⟩ = true)
    (e : step (denote treeTable) p w s ⟨cur, c, pos, stk⟩ = .go s₁ ⟨cur₁, c₁, pos₁, stk₁⟩) (sf : SameFr stk stk₁)
    (h : After p w n₀ ann stk₁ s₁ ⟨cur₁, c₁, pos₁, stk₁⟩ (Nat.succ k) life gens drawn os res) : After p w n₀ ann stk s ⟨cur, c, pos, stk⟩ k life gens drawn os res := by
  have one : ∀ {d s' t'}, Path p w n₀ ann stk₁.length d s₁ ⟨cur₁, c₁, pos₁, stk₁⟩ s' t' → Path p w n₀ ann stk.length (d + 1) s ⟨cur, c, pos, stk⟩ s' t' := fun x => .cons (Nat.le_refl _) (fun _ => nd) ok e (sf.len ▸ x)
  cases res with
  | ok r c' pos' T' n' tk' k' => obtain ⟨d, stk', hk, sf', x⟩ := h; exact ⟨d + 1, stk', by rw [hk]; omega, sf.trans sf', one x⟩
  | susp d₀ gd lv g c' pos' T' n' tk' k' => obtain ⟨d, stk', hk, sf', x⟩ := h; exact ⟨d + 1, stk', by rw [hk]; omega, sf.trans sf', one x⟩
  | again d₀ c' pos' T' n' tk' k' => obtain ⟨hn, d, stk', hk, sf', x⟩ := h; exact ⟨hn, d + 1, stk', by rw [hk]; omega, sf.trans sf', one x⟩
  | err => trivial
theorem After.path {stk stk₁ : List Frame} {s s₁ : Shared} {cur cur₁ : Sem Fin} {c c₁ : Code} {pos pos₁ : Pos} {k e : Nat} {res : Res} (x : Path p w n₀ ann stk.length e s ⟨cur, c, pos, stk⟩ s₁ ⟨cur₁, c₁, pos₁, stk₁⟩) (sf : SameFr stk stk₁)
    (h : After p w n₀ ann stk₁ s₁ ⟨cur₁, c₁, pos₁, stk₁⟩ (k + e) life gens drawn os res) : After p w n₀ ann stk s ⟨cur, c, pos, stk⟩ k life gens drawn os res := by
  have one : ∀ {d s' t'}, Path p w n₀ ann stk₁.length d s₁ ⟨cur₁, c₁, pos₁, stk₁⟩ s' t' → Path p w n₀ ann stk.length (e + d) s ⟨cur, c, pos, stk⟩ s' t' := fun y => x.trans (sf.len ▸ y)
  cases res with
  | ok r c' pos' T' n' tk' k' => obtain ⟨d, stk', hk, sf', x⟩ := h; exact ⟨e + d, stk', by rw [hk]; omega, sf.trans sf', one x⟩
  | susp d₀ gd lv g c' pos' T' n' tk' k' => obtain ⟨d, stk', hk, sf', x⟩ := h; exact ⟨e + d, stk', by rw [hk]; omega, sf.trans sf', one x⟩
  | again d₀ c' pos' T' n' tk' k' => obtain ⟨hn, d, stk', hk, sf', x⟩ := h; exact ⟨hn, e + d, stk', by rw [hk]; omega, sf.trans sf', one x⟩
  | err => trivial
theorem again_step {den : Code → Sem Fin} {s : Shared} {code d : Code} {pos : Pos} {stk : List Frame} (q : QF stk) : ∃ stk₁, SameFr stk stk₁ ∧ step den p w s ⟨.pure (.again d), code, pos, stk⟩ = .go s ⟨den d, d, pos, stk₁⟩ := by
  obtain ⟨heap, gens, drawn, toks, os⟩ := s
  cases stk with
  | nil => exact ⟨[], .same, by cases code <;> cases d <;> rfl⟩
  | cons f r =>
    cases f with
    | ret k h g l cd p₀ kept => exact ⟨_, .head, step_again⟩
    | gen => exact q.elim
theorem ev_after (stop : Code → Bool) : ∀ (f : Nat) (c : Code) (b : List (Code × Pos)) (t : Sem Fin) (pos : Pos) (T : BT) (n tk k : Nat) (stk : List Frame), stk.map Frame.where_ = b → QF stk →
    After p w n₀ ann stk (sh T n life gens drawn tk os) ⟨t, c, pos, stk⟩ k life gens drawn os (ev (denote treeTable) ⟨p, w.params⟩ n₀ ann stop f c b t pos T n tk k) := by
  intro f
  induction f with
  | zero => intros; exact trivial
  | succ f ih =>
    intro c b t pos T n tk k stk hb q
    rw [ev_succ]
    cases t with
    | pure x => cases x with
      | done fl => exact ⟨0, stk, rfl, .same, .nil⟩
      | again d =>
        dsimp only
        cases hn : noLife d with
        | false => trivial
        | true =>
          dsimp only
          cases hs : stop d with
          | true => exact ⟨hn, 0, stk, rfl, .same, .nil⟩
          | false =>
            obtain ⟨stk₁, sf, e⟩ := again_step (p := p) (w := w) (den := denote treeTable) (s := sh T n life gens drawn tk os) (code := c) (d := d) (pos := pos) q
            exact After.step (by intro f; exact fun h => by cases h) (stepOk_of hn) e sf (ih d b _ pos T n tk _ stk₁ (sf.at_.trans hb) (sf.qf q))
    | raise e => exact ⟨0, stk, rfl, .same, .nil⟩
    | rule tag g => exact After.step (by intro f h; cases h) (stepOk_of rfl) rfl .same (ih c b _ pos T n tk _ stk hb q)
    | «at» q' g => exact After.step (by intro f h; cases h) (stepOk_of rfl) rfl .same (ih c b _ q' T n tk _ stk hb q)
    | point l g => exact After.step (by intro f h; cases h) (stepOk_of rfl) rfl .same (ih c b _ pos T n tk _ stk hb q)
    | fresh g => exact After.step (by intro f h; cases h) (stepOk_of rfl) rfl .same (ih c b _ pos T n (Nat.succ tk) _ stk hb q)
    | ask g => exact After.step (by intro f h; cases h) (stepOk_of rfl) rfl .same (ih c b _ pos T n tk _ stk hb q)
    | thread g => exact After.step (by intro f h; cases h) (stepOk_of rfl) rfl .same (ih c b _ pos T n tk _ stk hb q)
    | stack g => subst hb; exact After.step (by intro f h; cases h) (stepOk_of rfl) rfl .same (ih c _ _ pos T n tk _ stk rfl q)
    | handled own g =>
      refine After.step (by intro f h; cases h) (stepOk_of rfl) ?_ .same (ih c b _ pos T n tk _ stk hb q)
      have e1 := QF.split stk q
      have e2 := QF.top stk q
      simp only [step]
      have : topHandled (if own then (match splitAtGen stk with | some (fs, _, _) => fs | none => stk) else stk) = none := by
        rw [e1]
        cases own <;> exact e2
      exact congrArg (fun x => Step.go (sh T n life gens drawn tk os) ⟨g x, c, pos, stk⟩) this
    | load a pt g =>
      dsimp only
      cases hb' : Nat.blt a n with
      | false => trivial
      | true =>
        dsimp only
        cases hg : T.get a with
        | none => trivial
        | some o =>
          dsimp only
          cases ha : alive o with
          | none => trivial
          | some o' =>
            refine After.step (by intro f h; cases h) (stepOk_of rfl) ?_ .same (ih c b _ pos T n tk _ stk hb q)
            show (match (absHeap T n life).get? a with | some o => _ | none => _) = _
            rw [absHeap_get hb' hg, ha]
    | loadIfAlive a g =>
      dsimp only
      cases hb' : Nat.blt a n with
      | false =>
        refine After.step (by intro f h; cases h) (stepOk_of rfl) ?_ .same (ih c b _ pos T n tk _ stk hb q)
        show Step.go _ ⟨g ((absHeap T n life).get? a), _, _, _⟩ = _
        rw [abs_get_none (fun h => by rw [show Nat.blt a n = true from Nat.ble_eq_true_of_le h] at hb'; cases hb')]
      | true =>
        dsimp only
        cases hg : T.get a with
        | none => trivial
        | some o =>
          refine After.step (by intro f h; cases h) (stepOk_of rfl) ?_ .same (ih c b _ pos T n tk _ stk hb q)
          show Step.go _ ⟨g ((absHeap T n life).get? a), _, _, _⟩ = _
          rw [absHeap_get hb' hg]
    | update a pt u g =>
      dsimp only
      cases hb' : Nat.blt a n with
      | false => trivial
      | true =>
        dsimp only
        cases hg : T.get a with
        | none => trivial
        | some o =>
          dsimp only
          cases ha : alive o with
          | none => trivial
          | some o' =>
            dsimp only
            cases hk : (Nat.ble n₀ a || a == mainNs || a == cStatics || ann == some (.ref a)) with
            | false => trivial
            | true =>
              refine After.step (by intro f h; cases h) (stepOk_of hk) ?_ .same (ih c b _ pos (T.set a u) n tk _ stk hb q)
              show (if ((absHeap T n life).get? a).isSome then _ else _) = Step.go ⟨absHeap (T.set a u) n life, gens, drawn, tk, os⟩ _
              rw [absHeap_get hb' hg, ha, absHeap_set hg]
              rfl
    | alloc o g =>
      dsimp only
      cases hi : ((T.ins n o).get n).isSome with
      | false => trivial
      | true =>
        refine After.step (by intro f h; cases h) (stepOk_of rfl) ?_ .same (ih c b _ pos (T.ins n o) (Nat.succ n) tk _ stk hb q)
        show Step.go ⟨(absHeap T n life).push o, gens, drawn, tk, os⟩ ⟨g (absHeap T n life).objs.size, _, _, _⟩ = _
        rw [← absHeap_ins hi, absHeap_size]
    | call d h gd lv g =>
      cases h with
      | some e => trivial
      | none =>
        dsimp only
        cases hs : stop d with
        | true => exact ⟨0, stk, rfl, .same, .nil⟩
        | false =>
          dsimp only
          generalize hkept : (match d, c with
            | .builtin _ a, _ => unmarked a.refs
            | .call f a, .builtin .. | .call f a, .call .. => unmarked (if lv.contains borrowed then a.refs else f :: a.refs)
            | _, _ => []) = kept
          have st : step (denote treeTable) p w (sh T n life gens drawn tk os) ⟨.call d none gd lv g, c, pos, stk⟩ = .go (sh T n life gens drawn tk os) ⟨denote treeTable d, d, pos, .ret g none gd lv c pos kept :: stk⟩ := by
            rw [← hkept]; rfl
          have inner := ih d ((c, pos) :: b) (denote treeTable d) pos T n tk (Nat.succ k) (.ret g none gd lv c pos kept :: stk) (by rw [List.map_cons, hb]; rfl) ⟨rfl, q⟩
          revert inner
          cases hr : ev (denote treeTable) ⟨p, w.params⟩ n₀ ann stop f d ((c, pos) :: b) (denote treeTable d) pos T n tk (Nat.succ k) with
          | err => intro _; trivial
          | susp => intro _; trivial
          | again => intro _; trivial
          | ok r c' pos' T' n' tk' k' =>
            intro inner
            obtain ⟨e, stk', hk, sf, x⟩ := inner
            dsimp only
            have x' : Path p w n₀ ann stk.length (e + 1) (sh T n life gens drawn tk os) ⟨.call d none gd lv g, c, pos, stk⟩ (sh T' n' life gens drawn tk' os) ⟨fin r, c', pos', stk'⟩ :=
              .cons (Nat.le_refl _) (fun _ f h => by cases h) (stepOk_of rfl) st (Path.weaken (m := stk.length) x (Nat.le_refl _))
            have back : ∃ kept', step (denote treeTable) p w (sh T' n' life gens drawn tk' os) ⟨fin r, c', pos', .ret g none gd lv c pos kept' :: stk⟩ = .go (sh T' n' life gens drawn tk' os) ⟨g r, c, pos, stk⟩ ∧ stk' = .ret g none gd lv c pos kept' :: stk := by
              cases sf with
              | same => exact ⟨kept, by cases r <;> rfl, rfl⟩
              | head => exact ⟨_, by cases r <;> rfl, rfl⟩
            obtain ⟨kept', hst, rfl⟩ := back
            have x'' : Path p w n₀ ann stk.length (e + 2) (sh T n life gens drawn tk os) ⟨.call d none gd lv g, c, pos, stk⟩ (sh T' n' life gens drawn tk' os) ⟨g r, c, pos, stk⟩ :=
              x'.trans (Path.one (Nat.le_succ _) (fun h => absurd h (Nat.succ_ne_self _)) (stepOk_of (by cases r <;> rfl)) hst)
            refine After.path x'' .same ?_
            have := ih c b (g r) pos T' n' tk' (Nat.succ k') stk hb q
            rw [show k + (e + 2) = Nat.succ k' by rw [hk]; omega]
            exact this
    | unsupported | finish | register | choose | os | newGen | genState | resume | «yield» | fork | await => trivial
end
section
variable {α : Type} {p : Program} {w : World} {n₀ : Nat} {ann : Option Value} {B : List Frame} {K' : α → Sem Fin} {H' : Value → Sem Fin} {res : α → Flow}
theorem Path.rel (hB : splitAtGen B = none) {d : Nat} {s s' : Shared} {t t₁ : Thread} (x : Path p w n₀ ann B.length d s t s' t₁) : ∀ {fl : Flow}, t₁.stack.length = B.length → t₁.cur = .pure (.done fl) → ∀ t', Rel2 (fun a => .pure (.done (res a))) K' deadEnd H' id id B t t' →
    ∃ a, res a = fl ∧ Path p w n₀ ann B.length d s t' s' ⟨K' a, t₁.code, t₁.pos, B⟩ := by
  induction x with
  | @nil s t =>
    intro fl hl hc t' R
    obtain ⟨cur, code, pos, st⟩ := t
    obtain ⟨cur', code', pos', st'⟩ := t'
    obtain ⟨e1, e2, R⟩ := R
    dsimp only at e1 e2 R hl hc
    subst e1 e2
    rcases R with ⟨rfl, rfl, x, rfl, rfl⟩ | ⟨rfl, F⟩
    · have hx : ∃ a, x = .pure a ∧ res a = fl := by
        cases x with
        | pure a => simp only [Sem.wrap, Sem.pure.injEq, Fin.done.injEq] at hc; exact ⟨a, rfl, hc⟩
        | _ => simp [Sem.wrap] at hc
      obtain ⟨a, rfl, rfl⟩ := hx
      exact ⟨a, rfl, .nil⟩
    · exact absurd hl (Nat.ne_of_gt F.longer.1)
  | @cons d s t s₁ t₁ s' t₂ a b c e _ ih =>
    intro fl hl hc t' R
    obtain ⟨cur, code, pos, st⟩ := t
    obtain ⟨cur', code', pos', st'⟩ := t'
    obtain ⟨e1, e2, R⟩ := R
    dsimp only at e1 e2 R a b
    subst e1 e2
    have key : B.length ≤ st'.length ∧ (st'.length = B.length → ∀ f, cur' ≠ .pure (.done f)) ∧ stepOk n₀ ann ⟨cur', code, pos, st'⟩ = true ∧ ∃ t₂', step (denote treeTable) p w s ⟨cur', code, pos, st'⟩ = .go s₁ t₂' ∧ Rel2 (fun a => .pure (.done (res a))) K' deadEnd H' id id B t₁ t₂' := by
      rcases R with ⟨rfl, rfl, x, rfl, rfl⟩ | ⟨rfl, F⟩
      · have hp : ∀ a, x ≠ .pure a := by
          rintro a rfl
          exact b rfl _ rfl
        have hr : ∀ e, x ≠ .raise e := by
          rintro e' rfl
          obtain ⟨heap, gens, drawn, toks, os⟩ := s
          simp only [Sem.wrap, step] at e
          cases e
        obtain ⟨k1, k2⟩ := okOuter (K' := K') (H' := H') hp hr c
        refine ⟨Nat.le_refl _, fun _ f hf => ?_, k1, step_outer hB hp e⟩
        cases x with
        | pure a => exact hp a rfl
        | raise e9 => exact hr e9 rfl
        | _ => simp [Sem.wrap] at hf
      · obtain ⟨k1, k2⟩ := okInner hB F c
        have l := F.longer
        exact ⟨Nat.le_of_lt l.2, fun h => absurd h (Nat.ne_of_gt l.2), k1, step_inner hB F e⟩
    obtain ⟨q1, q2, k1, t₂', k3, R'⟩ := key
    obtain ⟨a', ha, y⟩ := ih hl hc t₂' R'
    exact ⟨a', ha, .cons q1 q2 k1 k3 y⟩
end
noncomputable def Go (p : Program) (w : World) (n₀ : Nat) (ann : Option Value) {α : Type} (t : Sem α) (b : List (Code × Pos)) (c : Code) (pos : Pos) (T : BT) (n tk : Nat) (a : α) (c' : Code) (pos' : Pos) (T' : BT) (n' tk' d : Nat) : Prop :=
  ∀ life gens drawn os B, B.map Frame.where_ = b → QF B → ∀ (K : α → Sem Fin) (H : Value → Sem Fin), Path p w n₀ ann B.length d (sh T n life gens drawn tk os) ⟨t.wrap K H id id, c, pos, B⟩ (sh T' n' life gens drawn tk' os) ⟨K a, c', pos', B⟩
noncomputable def GoC (p : Program) (w : World) (n₀ : Nat) (ann : Option Value) (d : Code) (b : List (Code × Pos)) (p₁ : Pos) (T : BT) (n tk : Nat) (r : PySem.Result) (T' : BT) (n' tk' e : Nat) : Prop :=
  ∀ life gens drawn os B g gd lv c pos kept, (c, pos) :: B.map Frame.where_ = b → QF B → ∃ c' pos' kept',
    Path p w n₀ ann (B.length + 1) e (sh T n life gens drawn tk os) ⟨denote treeTable d, d, p₁, .ret g none gd lv c pos kept :: B⟩ (sh T' n' life gens drawn tk' os) ⟨fin r, c', pos', .ret g none gd lv c pos kept' :: B⟩
section
variable {p : Program} {w : World} {n₀ : Nat} {ann : Option Value} {stop : Code → Bool} {f : Nat} {b : List (Code × Pos)} {c c' : Code} {pos pos' : Pos} {T T' : BT} {n n' tk tk' : Nat}
theorem SameFr.ret_inv {g : PySem.Result → Sem Fin} {h : Option Value} {gd : Bool} {lv : List Value} {c : Code} {pos : Pos} {kept : List Value} {B l : List Frame} (x : SameFr (.ret g h gd lv c pos kept :: B) l) : ∃ kept', l = .ret g h gd lv c pos kept' :: B := by
  cases x with
  | same => exact ⟨_, rfl⟩
  | head => exact ⟨_, rfl⟩
theorem go_of_ev {t : Sem Flow} {fl : Flow} {d : Nat} (h : ev (denote treeTable) ⟨p, w.params⟩ n₀ ann stop f c b (t.wrap doneF deadEnd id id) pos T n tk 0 = .ok (.ok fl) c' pos' T' n' tk' d) :
    Go p w n₀ ann t b c pos T n tk fl c' pos' T' n' tk' d := by
  intro life gens drawn os B hb q K H
  have A := ev_after (p := p) (w := w) (n₀ := n₀) (ann := ann) (life := life) (gens := gens) (drawn := drawn) (os := os) stop f c b (t.wrap doneF deadEnd id id) pos T n tk 0 B hb q
  rw [h] at A
  obtain ⟨e, B', hk, sf, x⟩ := A
  obtain rfl : d = e := by omega
  obtain ⟨a, rfl, y⟩ := Path.rel (res := id) (K' := K) (H' := H) (QF.split B q) x sf.len rfl ⟨t.wrap K H id id, c, pos, B⟩ ⟨rfl, rfl, .inl ⟨rfl, rfl, t, rfl, rfl⟩⟩
  exact y
theorem goC_of_ev {d : Code} {p₁ : Pos} {r : PySem.Result} {e : Nat} (h : ev (denote treeTable) ⟨p, w.params⟩ n₀ ann stop f d b (denote treeTable d) p₁ T n tk 0 = .ok r c' pos' T' n' tk' e) :
    GoC p w n₀ ann d b p₁ T n tk r T' n' tk' e := by
  intro life gens drawn os B g gd lv c pos kept hb q
  have A := ev_after (p := p) (w := w) (n₀ := n₀) (ann := ann) (life := life) (gens := gens) (drawn := drawn) (os := os) stop f d b (denote treeTable d) p₁ T n tk 0 (.ret g none gd lv c pos kept :: B) hb ⟨rfl, q⟩
  rw [h] at A
  obtain ⟨e', B', hk, sf, x⟩ := A
  obtain rfl : e = e' := by omega
  obtain ⟨kept', rfl⟩ := sf.ret_inv
  exact ⟨_, _, kept', x⟩
theorem goC_of_again {d d₂ c₂ : Code} {p₁ p₂ : Pos} {T₂ : BT} {n₂ tk₂ k₂ : Nat} {r : PySem.Result} {e : Nat} (h : ev (denote treeTable) ⟨p, w.params⟩ n₀ ann stop f d b (denote treeTable d) p₁ T n tk 0 = .again d₂ c₂ p₂ T₂ n₂ tk₂ k₂)
    (G : GoC p w n₀ ann d₂ b p₂ T₂ n₂ tk₂ r T' n' tk' e) : GoC p w n₀ ann d b p₁ T n tk r T' n' tk' (k₂ + 1 + e) := by
  intro life gens drawn os B g gd lv c pos kept hb q
  have A := ev_after (p := p) (w := w) (n₀ := n₀) (ann := ann) (life := life) (gens := gens) (drawn := drawn) (os := os) stop f d b (denote treeTable d) p₁ T n tk 0 (.ret g none gd lv c pos kept :: B) hb ⟨rfl, q⟩
  rw [h] at A
  obtain ⟨hn, e', B', hk, sf, x⟩ := A
  obtain rfl : k₂ = e' := by omega
  obtain ⟨kept', rfl⟩ := sf.ret_inv
  obtain ⟨stk₁, sf₁, st⟩ := again_step (p := p) (w := w) (den := denote treeTable) (s := sh T₂ n₂ life gens drawn tk₂ os) (code := c₂) (d := d₂) (pos := p₂) (stk := .ret g none gd lv c pos kept' :: B) ⟨rfl, q⟩
  obtain ⟨kept₁, rfl⟩ := sf₁.ret_inv
  obtain ⟨c', pos', kept'', y⟩ := G life gens drawn os B g gd lv c pos kept₁ hb q
  exact ⟨c', pos', kept'', (x.trans (Path.one (Nat.le_refl _) (fun _ f h => by cases h) (stepOk_of hn) st)).trans y⟩
theorem func_wrap (body : List Stmt) (env : Env) : denote treeTable (.func body env) = .point [] fun _ => (execs body env).wrap (fun fl => match fl with | .ret v => .pure (.done (.ret v)) | _ => .pure (.done (.ret .none)))
    (fun e => ((leaving env e).bind fun _ => (.raise e : Sem Flow)).wrap (fun fl => match fl with | .ret v => .pure (.done (.ret v)) | _ => .pure (.done (.ret .none))) .raise id id) id id := by
  show Sem.point [] (fun _ => ((execs body env).onRaise (leaving env)).bind fun fl => _) = _
  congr 1
  funext _
  rw [Sem.bind_eq_wrap, Sem.onRaise_eq_wrap, Sem.wrap_wrap]
  refine Sem.wrap_congr _ _ _ (fun fl => ?_) fun _ => ?_
  · cases fl <;> rfl
  · rfl
theorem goC_func {body : List Stmt} {env : Env} {p₁ : Pos} {v : Value} {e : Nat} (G : Go p w n₀ ann (execs body env) b (.func body env) p₁ T n tk (.ret v) c' pos' T' n' tk' e) :
    GoC p w n₀ ann (.func body env) b p₁ T n tk (.ok (.ret v)) T' n' tk' (e + 1) := by
  intro life gens drawn os B g gd lv c pos kept hb q
  refine ⟨c', pos', kept, ?_⟩
  rw [func_wrap]
  exact .cons (Nat.le_refl _) (fun _ f h => by cases h) (stepOk_of rfl) rfl (G life gens drawn os (.ret g none gd lv c pos kept :: B) hb ⟨rfl, q⟩ _ _)
theorem goC_body {body : List Stmt} {env : Env} {p₁ : Pos} {e : Nat} (h0 : blockStart body env = .pure ()) (G : Go p w n₀ ann (execs body env) b (.body body env) p₁ T n tk .next c' pos' T' n' tk' e) :
    GoC p w n₀ ann (.body body env) b p₁ T n tk (.ok .next) T' n' tk' e := by
  intro life gens drawn os B g gd lv c pos kept hb q
  refine ⟨c', pos', kept, ?_⟩
  rw [body_wrap, h0]
  exact G life gens drawn os (.ret g none gd lv c pos kept :: B) hb ⟨rfl, q⟩ _ _
theorem go_call {stop' : Code → Bool} {f' : Nat} {t : Sem Flow} {d : Code} {gd : Bool} {lv : List Value} {g : PySem.Result → Sem Fin} {c₁ : Code} {p₁ : Pos} {T₁ T₂ : BT} {n₁ tk₁ k₁ n₂ tk₂ e k₂ : Nat} {r : PySem.Result} {fl : Flow}
    (h : ev (denote treeTable) ⟨p, w.params⟩ n₀ ann stop f c b (t.wrap doneF deadEnd id id) pos T n tk 0 = .susp d gd lv g c₁ p₁ T₁ n₁ tk₁ k₁)
    (G : GoC p w n₀ ann d ((c₁, p₁) :: b) p₁ T₁ n₁ tk₁ r T₂ n₂ tk₂ e)
    (h' : ev (denote treeTable) ⟨p, w.params⟩ n₀ ann stop' f' c₁ b (g r) p₁ T₂ n₂ tk₂ 0 = .ok (.ok fl) c' pos' T' n' tk' k₂) :
    Go p w n₀ ann t b c pos T n tk fl c' pos' T' n' tk' (k₁ + 1 + e + 1 + k₂) := by
  intro life gens drawn os B hb q K H
  have A := ev_after (p := p) (w := w) (n₀ := n₀) (ann := ann) (life := life) (gens := gens) (drawn := drawn) (os := os) stop f c b (t.wrap doneF deadEnd id id) pos T n tk 0 B hb q
  rw [h] at A
  obtain ⟨e', B₁, hk, sf, x⟩ := A
  obtain rfl : k₁ = e' := by omega
  have hb₁ : B₁.map Frame.where_ = b := sf.at_.trans hb
  have q₁ := sf.qf q
  generalize hkept : (match d, c₁ with
    | .builtin _ a, _ => unmarked a.refs
    | .call f a, .builtin .. | .call f a, .call .. => unmarked (if lv.contains borrowed then a.refs else f :: a.refs)
    | _, _ => []) = kept
  have st : step (denote treeTable) p w (sh T₁ n₁ life gens drawn tk₁ os) ⟨.call d none gd lv g, c₁, p₁, B₁⟩ = .go (sh T₁ n₁ life gens drawn tk₁ os) ⟨denote treeTable d, d, p₁, .ret g none gd lv c₁ p₁ kept :: B₁⟩ := by
    rw [← hkept]; rfl
  obtain ⟨c₂, p₂, kept', y⟩ := G life gens drawn os B₁ g gd lv c₁ p₁ kept (by rw [hb₁]) q₁
  have back : step (denote treeTable) p w (sh T₂ n₂ life gens drawn tk₂ os) ⟨fin r, c₂, p₂, .ret g none gd lv c₁ p₁ kept' :: B₁⟩ = .go (sh T₂ n₂ life gens drawn tk₂ os) ⟨g r, c₁, p₁, B₁⟩ := by cases r <;> rfl
  have A₂ := ev_after (p := p) (w := w) (n₀ := n₀) (ann := ann) (life := life) (gens := gens) (drawn := drawn) (os := os) stop' f' c₁ b (g r) p₁ T₂ n₂ tk₂ 0 B₁ hb₁ q₁
  rw [h'] at A₂
  obtain ⟨e₂, B₂, hk₂, sf₂, z⟩ := A₂
  obtain rfl : k₂ = e₂ := by omega
  have hl := sf.len
  have whole : Path p w n₀ ann B.length (k₁ + 1 + e + 1 + k₂) (sh T n life gens drawn tk os) ⟨t.wrap doneF deadEnd id id, c, pos, B⟩ (sh T' n' life gens drawn tk' os) ⟨.pure (.done fl), c', pos', B₂⟩ := by
    have x1 := x.trans (Path.one (Nat.le_of_eq hl.symm) (fun _ f h => by cases h) (stepOk_of rfl) st)
    have x2 := x1.trans (Path.weaken y (Nat.le_of_eq hl.symm))
    have x3 := x2.trans (Path.one (by show B.length ≤ B₁.length + 1; omega) (fun h => absurd h (by show B₁.length + 1 ≠ B.length; omega)) (stepOk_of (by cases r <;> rfl)) back)
    exact x3.trans (hl ▸ z)
  obtain ⟨a, rfl, y'⟩ := Path.rel (res := id) (K' := K) (H' := H) (QF.split B q) whole (sf₂.len.trans hl) rfl ⟨t.wrap K H id id, c, pos, B⟩ ⟨rfl, rfl, .inl ⟨rfl, rfl, t, rfl, rfl⟩⟩
  exact y'
theorem go_app {env : Env} {l l' : List Stmt} {c₁ : Code} {p₁ : Pos} {T₁ : BT} {n₁ tk₁ d e : Nat} {fl : Flow} (x : Go p w n₀ ann (execs l env) b c pos T n tk .next c₁ p₁ T₁ n₁ tk₁ d)
    (y : Go p w n₀ ann (execs l' env) b c₁ p₁ T₁ n₁ tk₁ fl c' pos' T' n' tk' e) : Go p w n₀ ann (execs (l ++ l') env) b c pos T n tk fl c' pos' T' n' tk' (d + e) := by
  intro life gens drawn os B hb q K H
  rw [execs_app_wrap]
  exact (x life gens drawn os B hb q _ H).trans (y life gens drawn os B hb q K H)
end
noncomputable abbrev pw := PySem.Challenge.pw_nz0215_01
noncomputable abbrev sO := Str.ofString
noncomputable abbrev n := BT.node
noncomputable abbrev l := BT.nil
noncomputable def up (T : BT) (xs : List (Nat × Obj)) : BT := @List.rec (Nat × Obj) (fun _ => BT → BT) (fun T => T) (fun x _ ih T => ih (T.ins x.1 x.2)) xs T
noncomputable def nthSt : List Stmt → Nat → Stmt
  | [], _ => .Pass ⟨0, 0, 0, 0⟩
  | s :: _, 0 => s
  | _ :: r, i + 1 => nthSt r i
noncomputable def stBody : Stmt → List Stmt
  | .FunctionDef _ _ b .. => b
  | .ClassDef _ _ _ b .. => b
  | _ => []
noncomputable def fnBody : Stmt → List Stmt := stBody
noncomputable def fnParams : Stmt → Arguments
  | .FunctionDef _ a .. => a
  | _ => { posonlyargs := [], args := [], vararg := none, kwonlyargs := [], kw_defaults := [], kwarg := none, defaults := [] }
noncomputable def fnScope : Stmt → Scope
  | .FunctionDef _ _ _ _ _ _ sc .. => sc
  | .ClassDef _ _ _ _ _ _ sc .. => sc
  | _ => { kind := .module, names := [], isGenerator := false, isCoroutine := false }
noncomputable def astAt (i : Nat) : Stmt := nthSt pw.main.body i
noncomputable def astIn (i j : Nat) : Stmt := nthSt (stBody (astAt i)) j
noncomputable abbrev Pm := Params
noncomputable abbrev Vs (x : String) (t : Tok) : Value := .str (sO x) t
noncomputable abbrev Iz (n : Int) : Value := .int n 0
noncomputable abbrev Ke (P : Params) (x : String) (t : Tok) (v : Value) : DictEntry := ⟨PyData.keyHash P (sO x), .str (sO x) t, v⟩
noncomputable abbrev Tp (l : Array Value) : Obj := ⟨.type "tuple", none, .seq l 0, #[]⟩
noncomputable abbrev Dc (k : Nat) (l : Array DictEntry) : Obj := ⟨.type "dict", none, .dict l k, #[]⟩
noncomputable abbrev Fl (l : Array Value) : Obj := ⟨.none, none, .fields l, #[]⟩
noncomputable abbrev Fx (c : String) (l : Array Value) : Obj := ⟨.type c, none, .fields l, #[]⟩
noncomputable abbrev Fq (a b c : Addr) (x : String) (t : Tok) : Obj := ⟨.type "frame", none, .plain, #[some (.ref a), some (.ref b), some (.ref c), none, some (Vs x t), none, some (.ref 0)]⟩
noncomputable abbrev Fw (f : Data) : Obj := ⟨.type "function", none, f, #[]⟩
noncomputable abbrev Fo (x q : String) (s : Stmt) (g : Nat) (d m c : Value) : Data := .func { name := sO x, qualname := sO q, params := fnParams s, body := .stmts (fnBody s), scope := fnScope s, globals := g, closure := [], defaults := d, kwdefaults := .none, doc := .none, pyModule := m, annotations := none, code := c, closureTuple := .none, builtins := 0 }
noncomputable abbrev Sq (a : Addr) : Obj := Fx "StopIteration" #[.ref a, .none, .none, .none, .bool false, .none]
noncomputable abbrev Sp (a : Addr) : Obj := ⟨.ref 120, some a, .plain, #[]⟩
noncomputable abbrev Sz (P : Params) (a : Tok) (x : String) (b c : Tok) (y : String) (d e : Tok) (n : Int) (f g : Tok) (m : Int) (h i : Tok) (k : Int) (j : Tok) : Obj := Dc 5 #[Ke P "name" a (Vs x b), Ke P "kind" c (Vs y d), Ke P "opcode" e (.int n f), Ke P "third" g (.int m h), Ke P "seventh" i (.int k j)]
noncomputable abbrev Tl : Pm → BT := fun _ => l
noncomputable abbrev Tn (f : Pm → Obj) (a b : Pm → BT) : Pm → BT := fun P => n (f P) (a P) (b P)
noncomputable section
def o11 (P : Pm) : Obj := Tp #[]
def o12 (P : Pm) : Obj := Fl #[]
def o13 (P : Pm) : Obj := Fx "code" #[Vs "<module>" 182, Vs "<module>" 183, Vs "/claim/cut.py" 184, Iz 1, Iz 0, Iz 0, Iz 0, Iz 0, .ref 11, .bool false, Iz 181, .ref 12, .none, .none, .none, .none, Iz 185, Iz 1, Vs "/claim/cut.py" 186]
def o14 (P : Pm) : Obj := Fq 13 3 3 "__main__" 164
def o3_1 (P : Pm) : Obj := Dc 27 #[Ke P "__name__" 165 (Vs "pipeboard.isa" 258), Ke P "__doc__" 166 .none, Ke P "__package__" 167 .none, Ke P "__loader__" 168 (.builtin "__main__.__loader__#opaque"), Ke P "__spec__" 169 .none, Ke P "__annotations__" 170 (.ref 6), Ke P "__builtins__" 171 (.ref 4), Ke P "__file__" 173 (Vs "/claim/cut.py" 172), Ke P "__cached__" 174 .none, Ke P "BoardError" 216 (.ref 32), Ke P "BadArgument" 232 (.ref 45), Ke P "BadInstruction" 257 (.ref 64), Ke P "LOAD" 261 (.int 3 260), Ke P "FENCES" 263 (.int 15 262), Ke P "IMMEDIATE" 265 (.int 19 264), Ke P "AUIPC" 267 (.int 23 266), Ke P "STORE" 269 (.int 35 268), Ke P "REGISTER" 271 (.int 51 270), Ke P "LUI" 273 (.int 55 272), Ke P "BRANCH" 275 (.int 99 274), Ke P "JALR" 277 (.int 103 276), Ke P "JAL" 279 (.int 111 278), Ke P "SYSTEM" 281 (.int 115 280), Ke P "Instruction" 332 (.ref 91), Ke P "Shape" 378 (.ref 120), Ke P "numbered" 392 (.ref 132), Ke P "shapes" 401 (.ref 139)]
def o12_1 (P : Pm) : Obj := Fl #[Iz 2, Iz 0, .ref 20, Iz 7, Iz 0, .ref 41, Iz 9, Iz 0, .ref 53, Iz 26, Iz 0, .ref 72, Iz 38, Iz 0, .ref 101, Iz 49, Iz 0, .ref 131, Iz 55, Iz 0, .ref 138]
def o15 (P : Pm) : Obj := Tp #[.type "ValueError"]
def o16 (P : Pm) : Obj := Fx "builtin_function_or_method" #[.builtin "type.__prepare__", .type "type"]
def o17 (P : Pm) : Obj := Dc 5 #[Ke P "__module__" 196 (Vs "pipeboard.errors" 187), Ke P "__qualname__" 198 (Vs "BoardError" 197), Ke P "__firstlineno__" 200 (.int 2 199), Ke P "__init__" 209 (.ref 29), Ke P "__static_attributes__" 211 (.ref 30)]
def o19 (P : Pm) : Obj := Fl #[Iz 4, Iz 4, .ref 28]
def o20 (P : Pm) : Obj := Fx "code" #[Vs "BoardError" 191, Vs "BoardError" 192, Vs "/claim/cut.py" 193, Iz 2, Iz 0, Iz 0, Iz 0, Iz 0, .ref 18, .bool false, Iz 181, .ref 19, .none, .none, .none, .none, Iz 194, Iz 2, Vs "/claim/cut.py" 195]
def o21 (P : Pm) : Obj := Fq 20 3 17 "pipeboard.errors" 187
def o22 (P : Pm) : Obj := Tp #[Vs "" 201]
def o25 (P : Pm) : Obj := Tp #[Vs "self" 205, Vs "reason" 206]
noncomputable def o27 (P : Pm) : Obj := ⟨.none, none, (Fo "__init__" "BoardError.__init__" (astIn 1 0) 0 .none .none .none), #[]⟩
def o28 (P : Pm) : Obj := Fx "code" #[Vs "__init__" 202, Vs "BoardError.__init__" 203, Vs "/claim/cut.py" 204, Iz 4, Iz 2, Iz 0, Iz 0, Iz 3, .ref 23, .bool true, Iz 181, .ref 24, .none, .ref 25, .ref 26, .ref 27, Iz 207, Iz 4, Vs "/claim/cut.py" 208]
def o29 (P : Pm) : Obj := Fw (Fo "__init__" "BoardError.__init__" (astIn 1 0) 3 (.ref 22) (Vs "pipeboard.errors" 187) (.ref 28))
def o30 (P : Pm) : Obj := Tp #[Vs "reason" 210]
def o31 (P : Pm) : Obj := Dc 3 #[Ke P "__module__" 196 (Vs "pipeboard.errors" 187), Ke P "__firstlineno__" 200 (.int 2 199), Ke P "__init__" 209 (.ref 29), Ke P "__static_attributes__" 211 (.ref 30), Ke P "__weakref__" 213 (.ref 33), Ke P "__doc__" 214 .none]
noncomputable def o32 (P : Pm) : Obj := ⟨(.type "type"), none, (.cls { name := (sO "BoardError"), bases := [(.type "ValueError")], mro := [(.ref 32), .type "ValueError", .type "Exception", .type "BaseException", .type "object"], ns := 31, qualname := (sO "BoardError"), hasDict := true, slotNames := [], subclasses := [(.ref 45), .ref 64], abstract := false, collection := none, hasDel := false }), #[(some (.ref 15)), none, (some (Vs "BoardError" 189)), (some (Vs "BoardError" 197)), (some (.builtin "ValueError.__new__")), (some (.bool true))]⟩
def o33 (P : Pm) : Obj := Fx "getset_descriptor" #[Vs "__weakref__" 212, .ref 32, .builtin "ExceptionGroup.__weakref__", .none]
def o34 (P : Pm) : Obj := Fx "super" #[.ref 32, .ref 32, .ref 32]
def o35 (P : Pm) : Obj := Fx "builtin_function_or_method" #[.builtin "object.__init_subclass__", .ref 32]
def o36 (P : Pm) : Obj := Tp #[.ref 32]
def o38 (P : Pm) : Obj := Dc 4 #[Ke P "__module__" 224 (Vs "pipeboard.errors" 187), Ke P "__qualname__" 226 (Vs "BadArgument" 225), Ke P "__firstlineno__" 228 (.int 7 227), Ke P "__static_attributes__" 229 (.ref 43)]
def o41 (P : Pm) : Obj := Fx "code" #[Vs "BadArgument" 219, Vs "BadArgument" 220, Vs "/claim/cut.py" 221, Iz 7, Iz 0, Iz 0, Iz 0, Iz 0, .ref 39, .bool false, Iz 181, .ref 40, .none, .none, .none, .none, Iz 222, Iz 7, Vs "/claim/cut.py" 223]
def o42 (P : Pm) : Obj := Fq 41 3 38 "pipeboard.errors" 187
def o44 (P : Pm) : Obj := Dc 2 #[Ke P "__module__" 224 (Vs "pipeboard.errors" 187), Ke P "__firstlineno__" 228 (.int 7 227), Ke P "__static_attributes__" 229 (.ref 43), Ke P "__doc__" 230 .none]
noncomputable def o45 (P : Pm) : Obj := ⟨(.type "type"), none, (.cls { name := (sO "BadArgument"), bases := [(.ref 32)], mro := [(.ref 45), .ref 32, .type "ValueError", .type "Exception", .type "BaseException", .type "object"], ns := 44, qualname := (sO "BadArgument"), hasDict := true, slotNames := [], subclasses := [], abstract := false, collection := none, hasDel := false }), #[(some (.ref 36)), none, (some (Vs "BadArgument" 217)), (some (Vs "BadArgument" 225)), (some (.builtin "ValueError.__new__")), (some (.bool true))]⟩
def o46 (P : Pm) : Obj := Fx "super" #[.ref 45, .ref 45, .ref 45]
def o47 (P : Pm) : Obj := Fx "builtin_function_or_method" #[.builtin "object.__init_subclass__", .ref 45]
def o50 (P : Pm) : Obj := Dc 5 #[Ke P "__module__" 240 (Vs "pipeboard.errors" 187), Ke P "__qualname__" 242 (Vs "BadInstruction" 241), Ke P "__firstlineno__" 244 (.int 9 243), Ke P "__init__" 252 (.ref 61), Ke P "__static_attributes__" 254 (.ref 62)]
def o52 (P : Pm) : Obj := Fl #[Iz 11, Iz 4, .ref 60]
def o53 (P : Pm) : Obj := Fx "code" #[Vs "BadInstruction" 235, Vs "BadInstruction" 236, Vs "/claim/cut.py" 237, Iz 9, Iz 0, Iz 0, Iz 0, Iz 0, .ref 51, .bool false, Iz 181, .ref 52, .none, .none, .none, .none, Iz 238, Iz 9, Vs "/claim/cut.py" 239]
def o54 (P : Pm) : Obj := Fq 53 3 50 "pipeboard.errors" 187
def o57 (P : Pm) : Obj := Tp #[Vs "self" 248, Vs "word" 249]
noncomputable def o59 (P : Pm) : Obj := ⟨.none, none, (Fo "__init__" "BadInstruction.__init__" (astIn 3 0) 0 .none .none .none), #[]⟩
def o60 (P : Pm) : Obj := Fx "code" #[Vs "__init__" 245, Vs "BadInstruction.__init__" 246, Vs "/claim/cut.py" 247, Iz 11, Iz 2, Iz 0, Iz 0, Iz 3, .ref 55, .bool true, Iz 181, .ref 56, .none, .ref 57, .ref 58, .ref 59, Iz 250, Iz 11, Vs "/claim/cut.py" 251]
def o61 (P : Pm) : Obj := Fw (Fo "__init__" "BadInstruction.__init__" (astIn 3 0) 3 .none (Vs "pipeboard.errors" 187) (.ref 60))
def o62 (P : Pm) : Obj := Tp #[Vs "word" 253]
def o63 (P : Pm) : Obj := Dc 2 #[Ke P "__module__" 240 (Vs "pipeboard.errors" 187), Ke P "__firstlineno__" 244 (.int 9 243), Ke P "__init__" 252 (.ref 61), Ke P "__static_attributes__" 254 (.ref 62), Ke P "__doc__" 255 .none]
noncomputable def o64 (P : Pm) : Obj := ⟨(.type "type"), none, (.cls { name := (sO "BadInstruction"), bases := [(.ref 32)], mro := [(.ref 64), .ref 32, .type "ValueError", .type "Exception", .type "BaseException", .type "object"], ns := 63, qualname := (sO "BadInstruction"), hasDict := true, slotNames := [], subclasses := [], abstract := false, collection := none, hasDel := false }), #[(some (.ref 48)), none, (some (Vs "BadInstruction" 233)), (some (Vs "BadInstruction" 241)), (some (.builtin "ValueError.__new__")), (some (.bool true))]⟩
def o65 (P : Pm) : Obj := Fx "super" #[.ref 64, .ref 64, .ref 64]
def o66 (P : Pm) : Obj := Fx "builtin_function_or_method" #[.builtin "object.__init_subclass__", .ref 64]
def o69 (P : Pm) : Obj := Dc 6 #[Ke P "__module__" 289 (Vs "pipeboard.isa" 258), Ke P "__qualname__" 291 (Vs "Instruction" 290), Ke P "__firstlineno__" 293 (.int 26 292), Ke P "__init__" 311 (.ref 81), Ke P "fields" 318 (.ref 88), Ke P "__static_attributes__" 325 (.ref 89)]
def o71 (P : Pm) : Obj := Fl #[Iz 28, Iz 4, .ref 80, Iz 36, Iz 4, .ref 87]
def o72 (P : Pm) : Obj := Fx "code" #[Vs "Instruction" 284, Vs "Instruction" 285, Vs "/claim/cut.py" 286, Iz 26, Iz 0, Iz 0, Iz 0, Iz 0, .ref 70, .bool false, Iz 181, .ref 71, .none, .none, .none, .none, Iz 287, Iz 26, Vs "/claim/cut.py" 288]
def o73 (P : Pm) : Obj := Fq 72 3 69 "pipeboard.isa" 258
def o74 (P : Pm) : Obj := Tp #[.int 0 294, .int 0 295, .int 0 296, .int 0 297, .int 0 298]
def o77 (P : Pm) : Obj := Tp #[Vs "self" 302, Vs "name" 303, Vs "rd" 304, Vs "rs1" 305, Vs "rs2" 306, Vs "imm" 307, Vs "csr" 308]
noncomputable def o79 (P : Pm) : Obj := ⟨.none, none, (Fo "__init__" "Instruction.__init__" (astIn 16 0) 0 .none .none .none), #[]⟩
def o80 (P : Pm) : Obj := Fx "code" #[Vs "__init__" 299, Vs "Instruction.__init__" 300, Vs "/claim/cut.py" 301, Iz 28, Iz 7, Iz 0, Iz 0, Iz 3, .ref 75, .bool true, Iz 181, .ref 76, .none, .ref 77, .ref 78, .ref 79, Iz 309, Iz 28, Vs "/claim/cut.py" 310]
def o81 (P : Pm) : Obj := Fw (Fo "__init__" "Instruction.__init__" (astIn 16 0) 3 (.ref 74) (Vs "pipeboard.isa" 258) (.ref 80))
def o84 (P : Pm) : Obj := Tp #[Vs "self" 315]
noncomputable def o86 (P : Pm) : Obj := ⟨.none, none, (Fo "fields" "Instruction.fields" (astIn 16 1) 0 .none .none .none), #[]⟩
def o87 (P : Pm) : Obj := Fx "code" #[Vs "fields" 312, Vs "Instruction.fields" 313, Vs "/claim/cut.py" 314, Iz 36, Iz 1, Iz 0, Iz 0, Iz 3, .ref 82, .bool true, Iz 181, .ref 83, .none, .ref 84, .ref 85, .ref 86, Iz 316, Iz 36, Vs "/claim/cut.py" 317]
def o88 (P : Pm) : Obj := Fw (Fo "fields" "Instruction.fields" (astIn 16 1) 3 .none (Vs "pipeboard.isa" 258) (.ref 87))
def o89 (P : Pm) : Obj := Tp #[Vs "csr" 319, Vs "imm" 320, Vs "name" 321, Vs "rd" 322, Vs "rs1" 323, Vs "rs2" 324]
def o90 (P : Pm) : Obj := Dc 4 #[Ke P "__module__" 289 (Vs "pipeboard.isa" 258), Ke P "__firstlineno__" 293 (.int 26 292), Ke P "__init__" 311 (.ref 81), Ke P "fields" 318 (.ref 88), Ke P "__static_attributes__" 325 (.ref 89), Ke P "__dict__" 327 (.ref 92), Ke P "__weakref__" 329 (.ref 93), Ke P "__doc__" 330 .none]
noncomputable def o91 (P : Pm) : Obj := ⟨(.type "type"), none, (.cls { name := (sO "Instruction"), bases := [(.type "object")], mro := [(.ref 91), .type "object"], ns := 90, qualname := (sO "Instruction"), hasDict := true, slotNames := [], subclasses := [], abstract := false, collection := none, hasDel := false }), #[none, none, (some (Vs "Instruction" 282)), (some (Vs "Instruction" 290)), (some (.builtin "object.__new__")), (some (.bool true))]⟩
def o92 (P : Pm) : Obj := Fx "getset_descriptor" #[Vs "__dict__" 326, .ref 91, .builtin "function.__dict__", .builtin "function.__dict__#set"]
def o93 (P : Pm) : Obj := Fx "getset_descriptor" #[Vs "__weakref__" 328, .ref 91, .builtin "ExceptionGroup.__weakref__", .none]
def o94 (P : Pm) : Obj := Fx "super" #[.ref 91, .ref 91, .ref 91]
def o95 (P : Pm) : Obj := Fx "builtin_function_or_method" #[.builtin "object.__init_subclass__", .ref 91]
def o98 (P : Pm) : Obj := Dc 6 #[Ke P "__module__" 340 (Vs "pipeboard.isa" 258), Ke P "__qualname__" 342 (Vs "Shape" 341), Ke P "__firstlineno__" 344 (.int 38 343), Ke P "__init__" 358 (.ref 110), Ke P "fixed" 365 (.ref 117), Ke P "__static_attributes__" 371 (.ref 118)]
def o100 (P : Pm) : Obj := Fl #[Iz 40, Iz 4, .ref 109, Iz 47, Iz 4, .ref 116]
def o101 (P : Pm) : Obj := Fx "code" #[Vs "Shape" 335, Vs "Shape" 336, Vs "/claim/cut.py" 337, Iz 38, Iz 0, Iz 0, Iz 0, Iz 0, .ref 99, .bool false, Iz 181, .ref 100, .none, .none, .none, .none, Iz 338, Iz 38, Vs "/claim/cut.py" 339]
def o102 (P : Pm) : Obj := Fq 101 3 98 "pipeboard.isa" 258
def o103 (P : Pm) : Obj := Tp #[.int 0 345, .int 0 346]
def o106 (P : Pm) : Obj := Tp #[Vs "self" 350, Vs "name" 351, Vs "kind" 352, Vs "opcode" 353, Vs "third" 354, Vs "seventh" 355]
noncomputable def o108 (P : Pm) : Obj := ⟨.none, none, (Fo "__init__" "Shape.__init__" (astIn 17 0) 0 .none .none .none), #[]⟩
def o109 (P : Pm) : Obj := Fx "code" #[Vs "__init__" 347, Vs "Shape.__init__" 348, Vs "/claim/cut.py" 349, Iz 40, Iz 6, Iz 0, Iz 0, Iz 3, .ref 104, .bool true, Iz 181, .ref 105, .none, .ref 106, .ref 107, .ref 108, Iz 356, Iz 40, Vs "/claim/cut.py" 357]
def o110 (P : Pm) : Obj := Fw (Fo "__init__" "Shape.__init__" (astIn 17 0) 3 (.ref 103) (Vs "pipeboard.isa" 258) (.ref 109))
def o113 (P : Pm) : Obj := Tp #[Vs "self" 362]
noncomputable def o115 (P : Pm) : Obj := ⟨.none, none, (Fo "fixed" "Shape.fixed" (astIn 17 1) 0 .none .none .none), #[]⟩
def o116 (P : Pm) : Obj := Fx "code" #[Vs "fixed" 359, Vs "Shape.fixed" 360, Vs "/claim/cut.py" 361, Iz 47, Iz 1, Iz 0, Iz 0, Iz 3, .ref 111, .bool true, Iz 181, .ref 112, .none, .ref 113, .ref 114, .ref 115, Iz 363, Iz 47, Vs "/claim/cut.py" 364]
def o117 (P : Pm) : Obj := Fw (Fo "fixed" "Shape.fixed" (astIn 17 1) 3 .none (Vs "pipeboard.isa" 258) (.ref 116))
def o118 (P : Pm) : Obj := Tp #[Vs "kind" 366, Vs "name" 367, Vs "opcode" 368, Vs "seventh" 369, Vs "third" 370]
def o119 (P : Pm) : Obj := Dc 4 #[Ke P "__module__" 340 (Vs "pipeboard.isa" 258), Ke P "__firstlineno__" 344 (.int 38 343), Ke P "__init__" 358 (.ref 110), Ke P "fixed" 365 (.ref 117), Ke P "__static_attributes__" 371 (.ref 118), Ke P "__dict__" 373 (.ref 121), Ke P "__weakref__" 375 (.ref 122), Ke P "__doc__" 376 .none]
noncomputable def o120 (P : Pm) : Obj := ⟨(.type "type"), none, (.cls { name := (sO "Shape"), bases := [(.type "object")], mro := [(.ref 120), .type "object"], ns := 119, qualname := (sO "Shape"), hasDict := true, slotNames := [], subclasses := [], abstract := false, collection := none, hasDel := false }), #[none, none, (some (Vs "Shape" 333)), (some (Vs "Shape" 341)), (some (.builtin "object.__new__")), (some (.bool true))]⟩
def o121 (P : Pm) : Obj := Fx "getset_descriptor" #[Vs "__dict__" 372, .ref 120, .builtin "function.__dict__", .builtin "function.__dict__#set"]
def o122 (P : Pm) : Obj := Fx "getset_descriptor" #[Vs "__weakref__" 374, .ref 120, .builtin "ExceptionGroup.__weakref__", .none]
def o123 (P : Pm) : Obj := Fx "super" #[.ref 120, .ref 120, .ref 120]
def o124 (P : Pm) : Obj := Fx "builtin_function_or_method" #[.builtin "object.__init_subclass__", .ref 120]
def o125 (P : Pm) : Obj := Tp #[.int 0 379]
def o128 (P : Pm) : Obj := Tp #[Vs "names" 383, Vs "kind" 384, Vs "opcode" 385, Vs "seventh" 386, Vs "found" 387, Vs "third" 388, Vs "name" 389]
noncomputable def o130 (P : Pm) : Obj := ⟨.none, none, (Fo "numbered" "numbered" (astAt 18) 0 .none .none .none), #[]⟩
def o131 (P : Pm) : Obj := Fx "code" #[Vs "numbered" 380, Vs "numbered" 381, Vs "/claim/cut.py" 382, Iz 49, Iz 4, Iz 0, Iz 0, Iz 3, .ref 126, .bool true, Iz 181, .ref 127, .none, .ref 128, .ref 129, .ref 130, Iz 390, Iz 49, Vs "/claim/cut.py" 391]
def o132 (P : Pm) : Obj := Fw (Fo "numbered" "numbered" (astAt 18) 3 (.ref 125) (Vs "pipeboard.isa" 258) (.ref 131))
def o135 (P : Pm) : Obj := Tp #[Vs "found" 396, Vs "name" 397, Vs "number" 398]
noncomputable def o137 (P : Pm) : Obj := ⟨.none, none, (Fo "shapes" "shapes" (astAt 19) 0 .none .none .none), #[]⟩
def o138 (P : Pm) : Obj := Fx "code" #[Vs "shapes" 393, Vs "shapes" 394, Vs "/claim/cut.py" 395, Iz 55, Iz 0, Iz 0, Iz 0, Iz 3, .ref 133, .bool true, Iz 181, .ref 134, .none, .ref 135, .ref 136, .ref 137, Iz 399, Iz 55, Vs "/claim/cut.py" 400]
def o139 (P : Pm) : Obj := Fw (Fo "shapes" "shapes" (astAt 19) 3 .none (Vs "pipeboard.isa" 258) (.ref 138))
def o12_2 (P : Pm) : Obj := Fl #[Iz 2, Iz 0, .ref 20, Iz 7, Iz 0, .ref 41, Iz 9, Iz 0, .ref 53, Iz 26, Iz 0, .ref 72, Iz 38, Iz 0, .ref 101, Iz 49, Iz 0, .ref 131, Iz 55, Iz 0, .ref 138, Iz 73, Iz 0, .ref 145]
def o142 (P : Pm) : Obj := Dc 3 #[Ke P "__module__" 409 (Vs "pipeboard.isa" 258), Ke P "__qualname__" 411 (Vs "Known" 410), Ke P "__firstlineno__" 413 (.int 73 412)]
def o145 (P : Pm) : Obj := Fx "code" #[Vs "Known" 404, Vs "Known" 405, Vs "/claim/cut.py" 406, Iz 73, Iz 0, Iz 0, Iz 0, Iz 0, .ref 143, .bool false, Iz 181, .ref 144, .none, .none, .none, .none, Iz 407, Iz 73, Vs "/claim/cut.py" 408]
def o146 (P : Pm) : Obj := Fq 145 3 142 "pipeboard.isa" 258
noncomputable def o147 (P : Pm) : Obj := ⟨(.type "frame"), none, .dict #[] 0, #[]⟩
noncomputable def o147_1 (P : Pm) : Obj := ⟨(.type "frame"), none, (.dict #[Ke P "found" 486 (.ref 160)] 1), #[]⟩
def o148 (P : Pm) : Obj := Sz P 423 "lui" 414 425 "U" 415 427 55 272 429 0 345 431 0 346
def o149 (P : Pm) : Obj := Sp 148
noncomputable def o150 (P : Pm) : Obj := ⟨(.type "frame"), none, (.dict #[Ke P "self" 416 (.ref 149), Ke P "name" 417 (Vs "lui" 414), Ke P "kind" 418 (Vs "U" 415), Ke P "opcode" 419 (.int 55 272), Ke P "third" 420 (.int 0 345), Ke P "seventh" 421 (.int 0 346)] 6), #[]⟩
def o151 (P : Pm) : Obj := Sz P 441 "auipc" 432 443 "U" 433 445 23 266 447 0 345 449 0 346
def o152 (P : Pm) : Obj := Sp 151
noncomputable def o153 (P : Pm) : Obj := ⟨(.type "frame"), none, (.dict #[Ke P "self" 434 (.ref 152), Ke P "name" 435 (Vs "auipc" 432), Ke P "kind" 436 (Vs "U" 433), Ke P "opcode" 437 (.int 23 266), Ke P "third" 438 (.int 0 345), Ke P "seventh" 439 (.int 0 346)] 6), #[]⟩
def o154 (P : Pm) : Obj := Sz P 459 "jal" 450 461 "J" 451 463 111 278 465 0 345 467 0 346
def o155 (P : Pm) : Obj := Sp 154
noncomputable def o156 (P : Pm) : Obj := ⟨(.type "frame"), none, (.dict #[Ke P "self" 452 (.ref 155), Ke P "name" 453 (Vs "jal" 450), Ke P "kind" 454 (Vs "J" 451), Ke P "opcode" 455 (.int 111 278), Ke P "third" 456 (.int 0 345), Ke P "seventh" 457 (.int 0 346)] 6), #[]⟩
def o157 (P : Pm) : Obj := Sz P 477 "jalr" 468 479 "I" 469 481 103 276 483 0 345 485 0 346
def o158 (P : Pm) : Obj := Sp 157
noncomputable def o159 (P : Pm) : Obj := ⟨(.type "frame"), none, (.dict #[Ke P "self" 470 (.ref 158), Ke P "name" 471 (Vs "jalr" 468), Ke P "kind" 472 (Vs "I" 469), Ke P "opcode" 473 (.int 103 276), Ke P "third" 474 (.int 0 345), Ke P "seventh" 475 (.int 0 346)] 6), #[]⟩
noncomputable def o160 (P : Pm) : Obj := ⟨(.type "list"), none, .seq #[.ref 149, .ref 152, .ref 155, .ref 158, .ref 171, .ref 178, .ref 193, .ref 200, .ref 207, .ref 214, .ref 228, .ref 235, .ref 242, .ref 253, .ref 260] 2, #[]⟩
noncomputable def o161 (P : Pm) : Obj := ⟨(.type "frame"), none, (.dict #[Ke P "names" 489 (Vs "beq bne - - blt bge bltu bgeu" 487), Ke P "kind" 490 (Vs "B" 488), Ke P "opcode" 491 (.int 99 274), Ke P "seventh" 492 (.int 0 379), Ke P "found" 493 (.ref 162), Ke P "third" 504 (.int 7 611), Ke P "name" 505 (Vs "bgeu" 502)] 7), #[]⟩
noncomputable def o162 (P : Pm) : Obj := ⟨(.type "list"), none, .seq #[.ref 171, .ref 178, .ref 193, .ref 200, .ref 207, .ref 214] 6, #[]⟩
noncomputable def o163 (P : Pm) : Obj := ⟨(.type "list"), none, .seq #[Vs "beq" 495, Vs "bne" 496, Vs "-" 497, Vs "-" 498, Vs "blt" 499, Vs "bge" 500, Vs "bltu" 501, Vs "bgeu" 502] 0, #[]⟩
def o164 (P : Pm) : Obj := Fx "list_iterator" #[.none, Iz 8]
def o165 (P : Pm) : Obj := Fx "enumerate" #[.none, .bool false, .ref 164, Iz 8, .none, Vs "bgeu" 502]
def o166 (P : Pm) : Obj := Tp #[.int 0 503, Vs "beq" 495]
def o167 (P : Pm) : Obj := Fx "tuple_iterator" #[.none, Iz 2]
def o169 (P : Pm) : Obj := Sq 168
def o170 (P : Pm) : Obj := Sz P 514 "beq" 495 516 "B" 488 518 99 274 520 0 503 522 0 379
def o171 (P : Pm) : Obj := Sp 170
noncomputable def o172 (P : Pm) : Obj := ⟨(.type "frame"), none, (.dict #[Ke P "self" 507 (.ref 171), Ke P "name" 508 (Vs "beq" 495), Ke P "kind" 509 (Vs "B" 488), Ke P "opcode" 510 (.int 99 274), Ke P "third" 511 (.int 0 503), Ke P "seventh" 512 (.int 0 379)] 6), #[]⟩
def o173 (P : Pm) : Obj := Tp #[.int 1 523, Vs "bne" 496]
def o176 (P : Pm) : Obj := Sq 175
def o177 (P : Pm) : Obj := Sz P 534 "bne" 496 536 "B" 488 538 99 274 540 1 523 542 0 379
def o178 (P : Pm) : Obj := Sp 177
noncomputable def o179 (P : Pm) : Obj := ⟨(.type "frame"), none, (.dict #[Ke P "self" 527 (.ref 178), Ke P "name" 528 (Vs "bne" 496), Ke P "kind" 529 (Vs "B" 488), Ke P "opcode" 530 (.int 99 274), Ke P "third" 531 (.int 1 523), Ke P "seventh" 532 (.int 0 379)] 6), #[]⟩
def o180 (P : Pm) : Obj := Tp #[.int 2 543, Vs "-" 497]
def o183 (P : Pm) : Obj := Sq 182
def o184 (P : Pm) : Obj := Tp #[.int 3 547, Vs "-" 498]
def o187 (P : Pm) : Obj := Sq 186
def o188 (P : Pm) : Obj := Tp #[.int 4 551, Vs "blt" 499]
def o191 (P : Pm) : Obj := Sq 190
def o192 (P : Pm) : Obj := Sz P 562 "blt" 499 564 "B" 488 566 99 274 568 4 551 570 0 379
def o193 (P : Pm) : Obj := Sp 192
noncomputable def o194 (P : Pm) : Obj := ⟨(.type "frame"), none, (.dict #[Ke P "self" 555 (.ref 193), Ke P "name" 556 (Vs "blt" 499), Ke P "kind" 557 (Vs "B" 488), Ke P "opcode" 558 (.int 99 274), Ke P "third" 559 (.int 4 551), Ke P "seventh" 560 (.int 0 379)] 6), #[]⟩
def o195 (P : Pm) : Obj := Tp #[.int 5 571, Vs "bge" 500]
def o198 (P : Pm) : Obj := Sq 197
def o199 (P : Pm) : Obj := Sz P 582 "bge" 500 584 "B" 488 586 99 274 588 5 571 590 0 379
def o200 (P : Pm) : Obj := Sp 199
noncomputable def o201 (P : Pm) : Obj := ⟨(.type "frame"), none, (.dict #[Ke P "self" 575 (.ref 200), Ke P "name" 576 (Vs "bge" 500), Ke P "kind" 577 (Vs "B" 488), Ke P "opcode" 578 (.int 99 274), Ke P "third" 579 (.int 5 571), Ke P "seventh" 580 (.int 0 379)] 6), #[]⟩
def o202 (P : Pm) : Obj := Tp #[.int 6 591, Vs "bltu" 501]
def o205 (P : Pm) : Obj := Sq 204
def o206 (P : Pm) : Obj := Sz P 602 "bltu" 501 604 "B" 488 606 99 274 608 6 591 610 0 379
def o207 (P : Pm) : Obj := Sp 206
noncomputable def o208 (P : Pm) : Obj := ⟨(.type "frame"), none, (.dict #[Ke P "self" 595 (.ref 207), Ke P "name" 596 (Vs "bltu" 501), Ke P "kind" 597 (Vs "B" 488), Ke P "opcode" 598 (.int 99 274), Ke P "third" 599 (.int 6 591), Ke P "seventh" 600 (.int 0 379)] 6), #[]⟩
def o209 (P : Pm) : Obj := Tp #[.int 7 611, Vs "bgeu" 502]
def o212 (P : Pm) : Obj := Sq 211
def o213 (P : Pm) : Obj := Sz P 622 "bgeu" 502 624 "B" 488 626 99 274 628 7 611 630 0 379
def o214 (P : Pm) : Obj := Sp 213
noncomputable def o215 (P : Pm) : Obj := ⟨(.type "frame"), none, (.dict #[Ke P "self" 615 (.ref 214), Ke P "name" 616 (Vs "bgeu" 502), Ke P "kind" 617 (Vs "B" 488), Ke P "opcode" 618 (.int 99 274), Ke P "third" 619 (.int 7 611), Ke P "seventh" 620 (.int 0 379)] 6), #[]⟩
def o217 (P : Pm) : Obj := Sq 216
noncomputable def o218 (P : Pm) : Obj := ⟨(.type "frame"), none, (.dict #[Ke P "names" 633 (Vs "lb lh lw - lbu lhu" 631), Ke P "kind" 634 (Vs "I" 632), Ke P "opcode" 635 (.int 3 260), Ke P "seventh" 636 (.int 0 379), Ke P "found" 637 (.ref 219), Ke P "third" 646 (.int 5 729), Ke P "name" 647 (Vs "lhu" 644)] 7), #[]⟩
noncomputable def o219 (P : Pm) : Obj := ⟨(.type "list"), none, .seq #[.ref 228, .ref 235, .ref 242, .ref 253, .ref 260] 5, #[]⟩
noncomputable def o220 (P : Pm) : Obj := ⟨(.type "list"), none, .seq #[Vs "lb" 639, Vs "lh" 640, Vs "lw" 641, Vs "-" 642, Vs "lbu" 643, Vs "lhu" 644] 0, #[]⟩
def o221 (P : Pm) : Obj := Fx "list_iterator" #[.none, Iz 6]
def o222 (P : Pm) : Obj := Fx "enumerate" #[.none, .bool false, .ref 221, Iz 6, .none, Vs "lhu" 644]
def o223 (P : Pm) : Obj := Tp #[.int 0 645, Vs "lb" 639]
def o226 (P : Pm) : Obj := Sq 225
def o227 (P : Pm) : Obj := Sz P 656 "lb" 639 658 "I" 632 660 3 260 662 0 645 664 0 379
def o228 (P : Pm) : Obj := Sp 227
noncomputable def o229 (P : Pm) : Obj := ⟨(.type "frame"), none, (.dict #[Ke P "self" 649 (.ref 228), Ke P "name" 650 (Vs "lb" 639), Ke P "kind" 651 (Vs "I" 632), Ke P "opcode" 652 (.int 3 260), Ke P "third" 653 (.int 0 645), Ke P "seventh" 654 (.int 0 379)] 6), #[]⟩
def o230 (P : Pm) : Obj := Tp #[.int 1 665, Vs "lh" 640]
def o233 (P : Pm) : Obj := Sq 232
def o234 (P : Pm) : Obj := Sz P 676 "lh" 640 678 "I" 632 680 3 260 682 1 665 684 0 379
def o235 (P : Pm) : Obj := Sp 234
noncomputable def o236 (P : Pm) : Obj := ⟨(.type "frame"), none, (.dict #[Ke P "self" 669 (.ref 235), Ke P "name" 670 (Vs "lh" 640), Ke P "kind" 671 (Vs "I" 632), Ke P "opcode" 672 (.int 3 260), Ke P "third" 673 (.int 1 665), Ke P "seventh" 674 (.int 0 379)] 6), #[]⟩
def o237 (P : Pm) : Obj := Tp #[.int 2 685, Vs "lw" 641]
def o240 (P : Pm) : Obj := Sq 239
def o241 (P : Pm) : Obj := Sz P 696 "lw" 641 698 "I" 632 700 3 260 702 2 685 704 0 379
def o242 (P : Pm) : Obj := Sp 241
noncomputable def o243 (P : Pm) : Obj := ⟨(.type "frame"), none, (.dict #[Ke P "self" 689 (.ref 242), Ke P "name" 690 (Vs "lw" 641), Ke P "kind" 691 (Vs "I" 632), Ke P "opcode" 692 (.int 3 260), Ke P "third" 693 (.int 2 685), Ke P "seventh" 694 (.int 0 379)] 6), #[]⟩
def o244 (P : Pm) : Obj := Tp #[.int 3 705, Vs "-" 642]
def o247 (P : Pm) : Obj := Sq 246
def o248 (P : Pm) : Obj := Tp #[.int 4 709, Vs "lbu" 643]
def o251 (P : Pm) : Obj := Sq 250
def o252 (P : Pm) : Obj := Sz P 720 "lbu" 643 722 "I" 632 724 3 260 726 4 709 728 0 379
def o253 (P : Pm) : Obj := Sp 252
noncomputable def o254 (P : Pm) : Obj := ⟨(.type "frame"), none, (.dict #[Ke P "self" 713 (.ref 253), Ke P "name" 714 (Vs "lbu" 643), Ke P "kind" 715 (Vs "I" 632), Ke P "opcode" 716 (.int 3 260), Ke P "third" 717 (.int 4 709), Ke P "seventh" 718 (.int 0 379)] 6), #[]⟩
def o255 (P : Pm) : Obj := Tp #[.int 5 729, Vs "lhu" 644]
def o258 (P : Pm) : Obj := Sq 257
def o259 (P : Pm) : Obj := Sz P 740 "lhu" 644 742 "I" 632 744 3 260 746 5 729 748 0 379
def o260 (P : Pm) : Obj := Sp 259
noncomputable def o261 (P : Pm) : Obj := ⟨(.type "frame"), none, (.dict #[Ke P "self" 733 (.ref 260), Ke P "name" 734 (Vs "lhu" 644), Ke P "kind" 735 (Vs "I" 632), Ke P "opcode" 736 (.int 3 260), Ke P "third" 737 (.int 5 729), Ke P "seventh" 738 (.int 0 379)] 6), #[]⟩
def o263 (P : Pm) : Obj := Sq 262
noncomputable def o160_1 (P : Pm) : Obj := ⟨(.type "list"), none, .seq #[.ref 149, .ref 152, .ref 155, .ref 158, .ref 171, .ref 178, .ref 193, .ref 200, .ref 207, .ref 214, .ref 228, .ref 235, .ref 242, .ref 253, .ref 260, .ref 274, .ref 281, .ref 288, .ref 302, .ref 313, .ref 320, .ref 327, .ref 338, .ref 345, .ref 363, .ref 382] 5, #[]⟩
noncomputable def o264 (P : Pm) : Obj := ⟨(.type "frame"), none, (.dict #[Ke P "names" 751 (Vs "sb sh sw" 749), Ke P "kind" 752 (Vs "S" 750), Ke P "opcode" 753 (.int 35 268), Ke P "seventh" 754 (.int 0 379), Ke P "found" 755 (.ref 265), Ke P "third" 761 (.int 2 800), Ke P "name" 762 (Vs "sw" 759)] 7), #[]⟩
noncomputable def o265 (P : Pm) : Obj := ⟨(.type "list"), none, .seq #[.ref 274, .ref 281, .ref 288] 3, #[]⟩
noncomputable def o266 (P : Pm) : Obj := ⟨(.type "list"), none, .seq #[Vs "sb" 757, Vs "sh" 758, Vs "sw" 759] 0, #[]⟩
def o267 (P : Pm) : Obj := Fx "list_iterator" #[.none, Iz 3]
def o268 (P : Pm) : Obj := Fx "enumerate" #[.none, .bool false, .ref 267, Iz 3, .none, Vs "sw" 759]
def o269 (P : Pm) : Obj := Tp #[.int 0 760, Vs "sb" 757]
def o272 (P : Pm) : Obj := Sq 271
def o273 (P : Pm) : Obj := Sz P 771 "sb" 757 773 "S" 750 775 35 268 777 0 760 779 0 379
def o274 (P : Pm) : Obj := Sp 273
noncomputable def o275 (P : Pm) : Obj := ⟨(.type "frame"), none, (.dict #[Ke P "self" 764 (.ref 274), Ke P "name" 765 (Vs "sb" 757), Ke P "kind" 766 (Vs "S" 750), Ke P "opcode" 767 (.int 35 268), Ke P "third" 768 (.int 0 760), Ke P "seventh" 769 (.int 0 379)] 6), #[]⟩
def o276 (P : Pm) : Obj := Tp #[.int 1 780, Vs "sh" 758]
def o279 (P : Pm) : Obj := Sq 278
def o280 (P : Pm) : Obj := Sz P 791 "sh" 758 793 "S" 750 795 35 268 797 1 780 799 0 379
def o281 (P : Pm) : Obj := Sp 280
noncomputable def o282 (P : Pm) : Obj := ⟨(.type "frame"), none, (.dict #[Ke P "self" 784 (.ref 281), Ke P "name" 785 (Vs "sh" 758), Ke P "kind" 786 (Vs "S" 750), Ke P "opcode" 787 (.int 35 268), Ke P "third" 788 (.int 1 780), Ke P "seventh" 789 (.int 0 379)] 6), #[]⟩
def o283 (P : Pm) : Obj := Tp #[.int 2 800, Vs "sw" 759]
def o286 (P : Pm) : Obj := Sq 285
def o287 (P : Pm) : Obj := Sz P 811 "sw" 759 813 "S" 750 815 35 268 817 2 800 819 0 379
def o288 (P : Pm) : Obj := Sp 287
noncomputable def o289 (P : Pm) : Obj := ⟨(.type "frame"), none, (.dict #[Ke P "self" 804 (.ref 288), Ke P "name" 805 (Vs "sw" 759), Ke P "kind" 806 (Vs "S" 750), Ke P "opcode" 807 (.int 35 268), Ke P "third" 808 (.int 2 800), Ke P "seventh" 809 (.int 0 379)] 6), #[]⟩
def o291 (P : Pm) : Obj := Sq 290
noncomputable def o292 (P : Pm) : Obj := ⟨(.type "frame"), none, (.dict #[Ke P "names" 822 (Vs "addi - slti sltiu xori - ori andi" 820), Ke P "kind" 823 (Vs "I" 821), Ke P "opcode" 824 (.int 19 264), Ke P "seventh" 825 (.int 0 379), Ke P "found" 826 (.ref 293), Ke P "third" 837 (.int 7 944), Ke P "name" 838 (Vs "andi" 835)] 7), #[]⟩
noncomputable def o293 (P : Pm) : Obj := ⟨(.type "list"), none, .seq #[.ref 302, .ref 313, .ref 320, .ref 327, .ref 338, .ref 345] 6, #[]⟩
noncomputable def o294 (P : Pm) : Obj := ⟨(.type "list"), none, .seq #[Vs "addi" 828, Vs "-" 829, Vs "slti" 830, Vs "sltiu" 831, Vs "xori" 832, Vs "-" 833, Vs "ori" 834, Vs "andi" 835] 0, #[]⟩
def o296 (P : Pm) : Obj := Fx "enumerate" #[.none, .bool false, .ref 295, Iz 8, .none, Vs "andi" 835]
def o297 (P : Pm) : Obj := Tp #[.int 0 836, Vs "addi" 828]
def o300 (P : Pm) : Obj := Sq 299
def o301 (P : Pm) : Obj := Sz P 847 "addi" 828 849 "I" 821 851 19 264 853 0 836 855 0 379
def o302 (P : Pm) : Obj := Sp 301
noncomputable def o303 (P : Pm) : Obj := ⟨(.type "frame"), none, (.dict #[Ke P "self" 840 (.ref 302), Ke P "name" 841 (Vs "addi" 828), Ke P "kind" 842 (Vs "I" 821), Ke P "opcode" 843 (.int 19 264), Ke P "third" 844 (.int 0 836), Ke P "seventh" 845 (.int 0 379)] 6), #[]⟩
def o304 (P : Pm) : Obj := Tp #[.int 1 856, Vs "-" 829]
def o307 (P : Pm) : Obj := Sq 306
def o308 (P : Pm) : Obj := Tp #[.int 2 860, Vs "slti" 830]
def o311 (P : Pm) : Obj := Sq 310
def o312 (P : Pm) : Obj := Sz P 871 "slti" 830 873 "I" 821 875 19 264 877 2 860 879 0 379
def o313 (P : Pm) : Obj := Sp 312
noncomputable def o314 (P : Pm) : Obj := ⟨(.type "frame"), none, (.dict #[Ke P "self" 864 (.ref 313), Ke P "name" 865 (Vs "slti" 830), Ke P "kind" 866 (Vs "I" 821), Ke P "opcode" 867 (.int 19 264), Ke P "third" 868 (.int 2 860), Ke P "seventh" 869 (.int 0 379)] 6), #[]⟩
def o315 (P : Pm) : Obj := Tp #[.int 3 880, Vs "sltiu" 831]
def o318 (P : Pm) : Obj := Sq 317
def o319 (P : Pm) : Obj := Sz P 891 "sltiu" 831 893 "I" 821 895 19 264 897 3 880 899 0 379
def o320 (P : Pm) : Obj := Sp 319
noncomputable def o321 (P : Pm) : Obj := ⟨(.type "frame"), none, (.dict #[Ke P "self" 884 (.ref 320), Ke P "name" 885 (Vs "sltiu" 831), Ke P "kind" 886 (Vs "I" 821), Ke P "opcode" 887 (.int 19 264), Ke P "third" 888 (.int 3 880), Ke P "seventh" 889 (.int 0 379)] 6), #[]⟩
def o322 (P : Pm) : Obj := Tp #[.int 4 900, Vs "xori" 832]
def o325 (P : Pm) : Obj := Sq 324
def o326 (P : Pm) : Obj := Sz P 911 "xori" 832 913 "I" 821 915 19 264 917 4 900 919 0 379
def o327 (P : Pm) : Obj := Sp 326
noncomputable def o328 (P : Pm) : Obj := ⟨(.type "frame"), none, (.dict #[Ke P "self" 904 (.ref 327), Ke P "name" 905 (Vs "xori" 832), Ke P "kind" 906 (Vs "I" 821), Ke P "opcode" 907 (.int 19 264), Ke P "third" 908 (.int 4 900), Ke P "seventh" 909 (.int 0 379)] 6), #[]⟩
def o329 (P : Pm) : Obj := Tp #[.int 5 920, Vs "-" 833]
def o332 (P : Pm) : Obj := Sq 331
def o333 (P : Pm) : Obj := Tp #[.int 6 924, Vs "ori" 834]
def o336 (P : Pm) : Obj := Sq 335
def o337 (P : Pm) : Obj := Sz P 935 "ori" 834 937 "I" 821 939 19 264 941 6 924 943 0 379
def o338 (P : Pm) : Obj := Sp 337
noncomputable def o339 (P : Pm) : Obj := ⟨(.type "frame"), none, (.dict #[Ke P "self" 928 (.ref 338), Ke P "name" 929 (Vs "ori" 834), Ke P "kind" 930 (Vs "I" 821), Ke P "opcode" 931 (.int 19 264), Ke P "third" 932 (.int 6 924), Ke P "seventh" 933 (.int 0 379)] 6), #[]⟩
def o340 (P : Pm) : Obj := Tp #[.int 7 944, Vs "andi" 835]
def o343 (P : Pm) : Obj := Sq 342
def o344 (P : Pm) : Obj := Sz P 955 "andi" 835 957 "I" 821 959 19 264 961 7 944 963 0 379
def o345 (P : Pm) : Obj := Sp 344
noncomputable def o346 (P : Pm) : Obj := ⟨(.type "frame"), none, (.dict #[Ke P "self" 948 (.ref 345), Ke P "name" 949 (Vs "andi" 835), Ke P "kind" 950 (Vs "I" 821), Ke P "opcode" 951 (.int 19 264), Ke P "third" 952 (.int 7 944), Ke P "seventh" 953 (.int 0 379)] 6), #[]⟩
def o348 (P : Pm) : Obj := Sq 347
noncomputable def o349 (P : Pm) : Obj := ⟨(.type "frame"), none, (.dict #[Ke P "names" 966 (Vs "- slli - - - srli" 964), Ke P "kind" 967 (Vs "shift" 965), Ke P "opcode" 968 (.int 19 264), Ke P "seventh" 969 (.int 0 379), Ke P "found" 970 (.ref 350), Ke P "third" 979 (.int 5 1014), Ke P "name" 980 (Vs "srli" 977)] 7), #[]⟩
noncomputable def o350 (P : Pm) : Obj := ⟨(.type "list"), none, .seq #[.ref 363, .ref 382] 2, #[]⟩
noncomputable def o351 (P : Pm) : Obj := ⟨(.type "list"), none, .seq #[Vs "-" 972, Vs "slli" 973, Vs "-" 974, Vs "-" 975, Vs "-" 976, Vs "srli" 977] 0, #[]⟩
def o353 (P : Pm) : Obj := Fx "enumerate" #[.none, .bool false, .ref 352, Iz 6, .none, Vs "srli" 977]
def o354 (P : Pm) : Obj := Tp #[.int 0 978, Vs "-" 972]
def o357 (P : Pm) : Obj := Sq 356
def o358 (P : Pm) : Obj := Tp #[.int 1 982, Vs "slli" 973]
def o361 (P : Pm) : Obj := Sq 360
def o362 (P : Pm) : Obj := Sz P 993 "slli" 973 995 "shift" 965 997 19 264 999 1 982 1001 0 379
def o363 (P : Pm) : Obj := Sp 362
noncomputable def o364 (P : Pm) : Obj := ⟨(.type "frame"), none, (.dict #[Ke P "self" 986 (.ref 363), Ke P "name" 987 (Vs "slli" 973), Ke P "kind" 988 (Vs "shift" 965), Ke P "opcode" 989 (.int 19 264), Ke P "third" 990 (.int 1 982), Ke P "seventh" 991 (.int 0 379)] 6), #[]⟩
def o365 (P : Pm) : Obj := Tp #[.int 2 1002, Vs "-" 974]
def o368 (P : Pm) : Obj := Sq 367
def o369 (P : Pm) : Obj := Tp #[.int 3 1006, Vs "-" 975]
def o372 (P : Pm) : Obj := Sq 371
def o373 (P : Pm) : Obj := Tp #[.int 4 1010, Vs "-" 976]
def o376 (P : Pm) : Obj := Sq 375
def o377 (P : Pm) : Obj := Tp #[.int 5 1014, Vs "srli" 977]
def o380 (P : Pm) : Obj := Sq 379
def o381 (P : Pm) : Obj := Sz P 1025 "srli" 977 1027 "shift" 965 1029 19 264 1031 5 1014 1033 0 379
def o382 (P : Pm) : Obj := Sp 381
noncomputable def o383 (P : Pm) : Obj := ⟨(.type "frame"), none, (.dict #[Ke P "self" 1018 (.ref 382), Ke P "name" 1019 (Vs "srli" 977), Ke P "kind" 1020 (Vs "shift" 965), Ke P "opcode" 1021 (.int 19 264), Ke P "third" 1022 (.int 5 1014), Ke P "seventh" 1023 (.int 0 379)] 6), #[]⟩
def o385 (P : Pm) : Obj := Sq 384
noncomputable def o160_2 (P : Pm) : Obj := ⟨(.type "list"), none, .seq #[.ref 149, .ref 152, .ref 155, .ref 158, .ref 171, .ref 178, .ref 193, .ref 200, .ref 207, .ref 214, .ref 228, .ref 235, .ref 242, .ref 253, .ref 260, .ref 274, .ref 281, .ref 288, .ref 302, .ref 313, .ref 320, .ref 327, .ref 338, .ref 345, .ref 363, .ref 382, .ref 416, .ref 430, .ref 437, .ref 444, .ref 451, .ref 458, .ref 465, .ref 472, .ref 479, .ref 493, .ref 516] 8, #[]⟩
noncomputable def o386 (P : Pm) : Obj := ⟨(.type "frame"), none, (.dict #[Ke P "names" 1037 (Vs "- - - - - srai" 1034), Ke P "kind" 1038 (Vs "shift" 1035), Ke P "opcode" 1039 (.int 19 264), Ke P "seventh" 1040 (.int 32 1036), Ke P "found" 1041 (.ref 387), Ke P "third" 1050 (.int 5 1069), Ke P "name" 1051 (Vs "srai" 1048)] 7), #[]⟩
noncomputable def o387 (P : Pm) : Obj := ⟨(.type "list"), none, .seq #[.ref 416] 1, #[]⟩
noncomputable def o388 (P : Pm) : Obj := ⟨(.type "list"), none, .seq #[Vs "-" 1043, Vs "-" 1044, Vs "-" 1045, Vs "-" 1046, Vs "-" 1047, Vs "srai" 1048] 0, #[]⟩
def o390 (P : Pm) : Obj := Fx "enumerate" #[.none, .bool false, .ref 389, Iz 6, .none, Vs "srai" 1048]
def o391 (P : Pm) : Obj := Tp #[.int 0 1049, Vs "-" 1043]
def o394 (P : Pm) : Obj := Sq 393
def o395 (P : Pm) : Obj := Tp #[.int 1 1053, Vs "-" 1044]
def o398 (P : Pm) : Obj := Sq 397
def o399 (P : Pm) : Obj := Tp #[.int 2 1057, Vs "-" 1045]
def o402 (P : Pm) : Obj := Sq 401
def o403 (P : Pm) : Obj := Tp #[.int 3 1061, Vs "-" 1046]
def o406 (P : Pm) : Obj := Sq 405
def o407 (P : Pm) : Obj := Tp #[.int 4 1065, Vs "-" 1047]
def o410 (P : Pm) : Obj := Sq 409
def o411 (P : Pm) : Obj := Tp #[.int 5 1069, Vs "srai" 1048]
def o414 (P : Pm) : Obj := Sq 413
def o415 (P : Pm) : Obj := Sz P 1080 "srai" 1048 1082 "shift" 1035 1084 19 264 1086 5 1069 1088 32 1036
def o416 (P : Pm) : Obj := Sp 415
noncomputable def o417 (P : Pm) : Obj := ⟨(.type "frame"), none, (.dict #[Ke P "self" 1073 (.ref 416), Ke P "name" 1074 (Vs "srai" 1048), Ke P "kind" 1075 (Vs "shift" 1035), Ke P "opcode" 1076 (.int 19 264), Ke P "third" 1077 (.int 5 1069), Ke P "seventh" 1078 (.int 32 1036)] 6), #[]⟩
def o419 (P : Pm) : Obj := Sq 418
noncomputable def o420 (P : Pm) : Obj := ⟨(.type "frame"), none, (.dict #[Ke P "names" 1091 (Vs "add sll slt sltu xor srl or and" 1089), Ke P "kind" 1092 (Vs "R" 1090), Ke P "opcode" 1093 (.int 51 270), Ke P "seventh" 1094 (.int 0 379), Ke P "found" 1095 (.ref 421), Ke P "third" 1106 (.int 7 1245), Ke P "name" 1107 (Vs "and" 1104)] 7), #[]⟩
noncomputable def o421 (P : Pm) : Obj := ⟨(.type "list"), none, .seq #[.ref 430, .ref 437, .ref 444, .ref 451, .ref 458, .ref 465, .ref 472, .ref 479] 8, #[]⟩
noncomputable def o422 (P : Pm) : Obj := ⟨(.type "list"), none, .seq #[Vs "add" 1097, Vs "sll" 1098, Vs "slt" 1099, Vs "sltu" 1100, Vs "xor" 1101, Vs "srl" 1102, Vs "or" 1103, Vs "and" 1104] 0, #[]⟩
def o424 (P : Pm) : Obj := Fx "enumerate" #[.none, .bool false, .ref 423, Iz 8, .none, Vs "and" 1104]
def o425 (P : Pm) : Obj := Tp #[.int 0 1105, Vs "add" 1097]
def o428 (P : Pm) : Obj := Sq 427
def o429 (P : Pm) : Obj := Sz P 1116 "add" 1097 1118 "R" 1090 1120 51 270 1122 0 1105 1124 0 379
def o430 (P : Pm) : Obj := Sp 429
noncomputable def o431 (P : Pm) : Obj := ⟨(.type "frame"), none, (.dict #[Ke P "self" 1109 (.ref 430), Ke P "name" 1110 (Vs "add" 1097), Ke P "kind" 1111 (Vs "R" 1090), Ke P "opcode" 1112 (.int 51 270), Ke P "third" 1113 (.int 0 1105), Ke P "seventh" 1114 (.int 0 379)] 6), #[]⟩
def o432 (P : Pm) : Obj := Tp #[.int 1 1125, Vs "sll" 1098]
def o435 (P : Pm) : Obj := Sq 434
def o436 (P : Pm) : Obj := Sz P 1136 "sll" 1098 1138 "R" 1090 1140 51 270 1142 1 1125 1144 0 379
def o437 (P : Pm) : Obj := Sp 436
noncomputable def o438 (P : Pm) : Obj := ⟨(.type "frame"), none, (.dict #[Ke P "self" 1129 (.ref 437), Ke P "name" 1130 (Vs "sll" 1098), Ke P "kind" 1131 (Vs "R" 1090), Ke P "opcode" 1132 (.int 51 270), Ke P "third" 1133 (.int 1 1125), Ke P "seventh" 1134 (.int 0 379)] 6), #[]⟩
def o439 (P : Pm) : Obj := Tp #[.int 2 1145, Vs "slt" 1099]
def o442 (P : Pm) : Obj := Sq 441
def o443 (P : Pm) : Obj := Sz P 1156 "slt" 1099 1158 "R" 1090 1160 51 270 1162 2 1145 1164 0 379
def o444 (P : Pm) : Obj := Sp 443
noncomputable def o445 (P : Pm) : Obj := ⟨(.type "frame"), none, (.dict #[Ke P "self" 1149 (.ref 444), Ke P "name" 1150 (Vs "slt" 1099), Ke P "kind" 1151 (Vs "R" 1090), Ke P "opcode" 1152 (.int 51 270), Ke P "third" 1153 (.int 2 1145), Ke P "seventh" 1154 (.int 0 379)] 6), #[]⟩
def o446 (P : Pm) : Obj := Tp #[.int 3 1165, Vs "sltu" 1100]
def o449 (P : Pm) : Obj := Sq 448
def o450 (P : Pm) : Obj := Sz P 1176 "sltu" 1100 1178 "R" 1090 1180 51 270 1182 3 1165 1184 0 379
def o451 (P : Pm) : Obj := Sp 450
noncomputable def o452 (P : Pm) : Obj := ⟨(.type "frame"), none, (.dict #[Ke P "self" 1169 (.ref 451), Ke P "name" 1170 (Vs "sltu" 1100), Ke P "kind" 1171 (Vs "R" 1090), Ke P "opcode" 1172 (.int 51 270), Ke P "third" 1173 (.int 3 1165), Ke P "seventh" 1174 (.int 0 379)] 6), #[]⟩
def o453 (P : Pm) : Obj := Tp #[.int 4 1185, Vs "xor" 1101]
def o456 (P : Pm) : Obj := Sq 455
def o457 (P : Pm) : Obj := Sz P 1196 "xor" 1101 1198 "R" 1090 1200 51 270 1202 4 1185 1204 0 379
def o458 (P : Pm) : Obj := Sp 457
noncomputable def o459 (P : Pm) : Obj := ⟨(.type "frame"), none, (.dict #[Ke P "self" 1189 (.ref 458), Ke P "name" 1190 (Vs "xor" 1101), Ke P "kind" 1191 (Vs "R" 1090), Ke P "opcode" 1192 (.int 51 270), Ke P "third" 1193 (.int 4 1185), Ke P "seventh" 1194 (.int 0 379)] 6), #[]⟩
def o460 (P : Pm) : Obj := Tp #[.int 5 1205, Vs "srl" 1102]
def o463 (P : Pm) : Obj := Sq 462
def o464 (P : Pm) : Obj := Sz P 1216 "srl" 1102 1218 "R" 1090 1220 51 270 1222 5 1205 1224 0 379
def o465 (P : Pm) : Obj := Sp 464
noncomputable def o466 (P : Pm) : Obj := ⟨(.type "frame"), none, (.dict #[Ke P "self" 1209 (.ref 465), Ke P "name" 1210 (Vs "srl" 1102), Ke P "kind" 1211 (Vs "R" 1090), Ke P "opcode" 1212 (.int 51 270), Ke P "third" 1213 (.int 5 1205), Ke P "seventh" 1214 (.int 0 379)] 6), #[]⟩
def o467 (P : Pm) : Obj := Tp #[.int 6 1225, Vs "or" 1103]
def o470 (P : Pm) : Obj := Sq 469
def o471 (P : Pm) : Obj := Sz P 1236 "or" 1103 1238 "R" 1090 1240 51 270 1242 6 1225 1244 0 379
def o472 (P : Pm) : Obj := Sp 471
noncomputable def o473 (P : Pm) : Obj := ⟨(.type "frame"), none, (.dict #[Ke P "self" 1229 (.ref 472), Ke P "name" 1230 (Vs "or" 1103), Ke P "kind" 1231 (Vs "R" 1090), Ke P "opcode" 1232 (.int 51 270), Ke P "third" 1233 (.int 6 1225), Ke P "seventh" 1234 (.int 0 379)] 6), #[]⟩
def o474 (P : Pm) : Obj := Tp #[.int 7 1245, Vs "and" 1104]
def o477 (P : Pm) : Obj := Sq 476
def o478 (P : Pm) : Obj := Sz P 1256 "and" 1104 1258 "R" 1090 1260 51 270 1262 7 1245 1264 0 379
def o479 (P : Pm) : Obj := Sp 478
noncomputable def o480 (P : Pm) : Obj := ⟨(.type "frame"), none, (.dict #[Ke P "self" 1249 (.ref 479), Ke P "name" 1250 (Vs "and" 1104), Ke P "kind" 1251 (Vs "R" 1090), Ke P "opcode" 1252 (.int 51 270), Ke P "third" 1253 (.int 7 1245), Ke P "seventh" 1254 (.int 0 379)] 6), #[]⟩
def o482 (P : Pm) : Obj := Sq 481
noncomputable def o483 (P : Pm) : Obj := ⟨(.type "frame"), none, (.dict #[Ke P "names" 1268 (Vs "sub - - - - sra" 1265), Ke P "kind" 1269 (Vs "R" 1266), Ke P "opcode" 1270 (.int 51 270), Ke P "seventh" 1271 (.int 32 1267), Ke P "found" 1272 (.ref 484), Ke P "third" 1281 (.int 5 1316), Ke P "name" 1282 (Vs "sra" 1279)] 7), #[]⟩
noncomputable def o484 (P : Pm) : Obj := ⟨(.type "list"), none, .seq #[.ref 493, .ref 516] 2, #[]⟩
noncomputable def o485 (P : Pm) : Obj := ⟨(.type "list"), none, .seq #[Vs "sub" 1274, Vs "-" 1275, Vs "-" 1276, Vs "-" 1277, Vs "-" 1278, Vs "sra" 1279] 0, #[]⟩
def o487 (P : Pm) : Obj := Fx "enumerate" #[.none, .bool false, .ref 486, Iz 6, .none, Vs "sra" 1279]
def o488 (P : Pm) : Obj := Tp #[.int 0 1280, Vs "sub" 1274]
def o491 (P : Pm) : Obj := Sq 490
def o492 (P : Pm) : Obj := Sz P 1291 "sub" 1274 1293 "R" 1266 1295 51 270 1297 0 1280 1299 32 1267
def o493 (P : Pm) : Obj := Sp 492
noncomputable def o494 (P : Pm) : Obj := ⟨(.type "frame"), none, (.dict #[Ke P "self" 1284 (.ref 493), Ke P "name" 1285 (Vs "sub" 1274), Ke P "kind" 1286 (Vs "R" 1266), Ke P "opcode" 1287 (.int 51 270), Ke P "third" 1288 (.int 0 1280), Ke P "seventh" 1289 (.int 32 1267)] 6), #[]⟩
def o495 (P : Pm) : Obj := Tp #[.int 1 1300, Vs "-" 1275]
def o498 (P : Pm) : Obj := Sq 497
def o499 (P : Pm) : Obj := Tp #[.int 2 1304, Vs "-" 1276]
def o502 (P : Pm) : Obj := Sq 501
def o503 (P : Pm) : Obj := Tp #[.int 3 1308, Vs "-" 1277]
def o506 (P : Pm) : Obj := Sq 505
def o507 (P : Pm) : Obj := Tp #[.int 4 1312, Vs "-" 1278]
def o510 (P : Pm) : Obj := Sq 509
def o511 (P : Pm) : Obj := Tp #[.int 5 1316, Vs "sra" 1279]
def o514 (P : Pm) : Obj := Sq 513
def o515 (P : Pm) : Obj := Sz P 1327 "sra" 1279 1329 "R" 1266 1331 51 270 1333 5 1316 1335 32 1267
def o516 (P : Pm) : Obj := Sp 515
noncomputable def o517 (P : Pm) : Obj := ⟨(.type "frame"), none, (.dict #[Ke P "self" 1320 (.ref 516), Ke P "name" 1321 (Vs "sra" 1279), Ke P "kind" 1322 (Vs "R" 1266), Ke P "opcode" 1323 (.int 51 270), Ke P "third" 1324 (.int 5 1316), Ke P "seventh" 1325 (.int 32 1267)] 6), #[]⟩
def o519 (P : Pm) : Obj := Sq 518
noncomputable def o160_3 (P : Pm) : Obj := ⟨(.type "list"), none, .seq #[.ref 149, .ref 152, .ref 155, .ref 158, .ref 171, .ref 178, .ref 193, .ref 200, .ref 207, .ref 214, .ref 228, .ref 235, .ref 242, .ref 253, .ref 260, .ref 274, .ref 281, .ref 288, .ref 302, .ref 313, .ref 320, .ref 327, .ref 338, .ref 345, .ref 363, .ref 382, .ref 416, .ref 430, .ref 437, .ref 444, .ref 451, .ref 458, .ref 465, .ref 472, .ref 479, .ref 493, .ref 516, .ref 530, .ref 537, .ref 544, .ref 551, .ref 558, .ref 565, .ref 572, .ref 579, .ref 593, .ref 600, .ref 618, .ref 625, .ref 632] 11, #[]⟩
noncomputable def o520 (P : Pm) : Obj := ⟨(.type "frame"), none, (.dict #[Ke P "names" 1339 (Vs "mul mulh mulhsu mulhu div divu rem remu" 1336), Ke P "kind" 1340 (Vs "R" 1337), Ke P "opcode" 1341 (.int 51 270), Ke P "seventh" 1342 (.int 1 1338), Ke P "found" 1343 (.ref 521), Ke P "third" 1354 (.int 7 1493), Ke P "name" 1355 (Vs "remu" 1352)] 7), #[]⟩
noncomputable def o521 (P : Pm) : Obj := ⟨(.type "list"), none, .seq #[.ref 530, .ref 537, .ref 544, .ref 551, .ref 558, .ref 565, .ref 572, .ref 579] 8, #[]⟩
noncomputable def o522 (P : Pm) : Obj := ⟨(.type "list"), none, .seq #[Vs "mul" 1345, Vs "mulh" 1346, Vs "mulhsu" 1347, Vs "mulhu" 1348, Vs "div" 1349, Vs "divu" 1350, Vs "rem" 1351, Vs "remu" 1352] 0, #[]⟩
def o524 (P : Pm) : Obj := Fx "enumerate" #[.none, .bool false, .ref 523, Iz 8, .none, Vs "remu" 1352]
def o525 (P : Pm) : Obj := Tp #[.int 0 1353, Vs "mul" 1345]
def o528 (P : Pm) : Obj := Sq 527
def o529 (P : Pm) : Obj := Sz P 1364 "mul" 1345 1366 "R" 1337 1368 51 270 1370 0 1353 1372 1 1338
def o530 (P : Pm) : Obj := Sp 529
noncomputable def o531 (P : Pm) : Obj := ⟨(.type "frame"), none, (.dict #[Ke P "self" 1357 (.ref 530), Ke P "name" 1358 (Vs "mul" 1345), Ke P "kind" 1359 (Vs "R" 1337), Ke P "opcode" 1360 (.int 51 270), Ke P "third" 1361 (.int 0 1353), Ke P "seventh" 1362 (.int 1 1338)] 6), #[]⟩
def o532 (P : Pm) : Obj := Tp #[.int 1 1373, Vs "mulh" 1346]
def o535 (P : Pm) : Obj := Sq 534
def o536 (P : Pm) : Obj := Sz P 1384 "mulh" 1346 1386 "R" 1337 1388 51 270 1390 1 1373 1392 1 1338
def o537 (P : Pm) : Obj := Sp 536
noncomputable def o538 (P : Pm) : Obj := ⟨(.type "frame"), none, (.dict #[Ke P "self" 1377 (.ref 537), Ke P "name" 1378 (Vs "mulh" 1346), Ke P "kind" 1379 (Vs "R" 1337), Ke P "opcode" 1380 (.int 51 270), Ke P "third" 1381 (.int 1 1373), Ke P "seventh" 1382 (.int 1 1338)] 6), #[]⟩
def o539 (P : Pm) : Obj := Tp #[.int 2 1393, Vs "mulhsu" 1347]
def o542 (P : Pm) : Obj := Sq 541
def o543 (P : Pm) : Obj := Sz P 1404 "mulhsu" 1347 1406 "R" 1337 1408 51 270 1410 2 1393 1412 1 1338
def o544 (P : Pm) : Obj := Sp 543
noncomputable def o545 (P : Pm) : Obj := ⟨(.type "frame"), none, (.dict #[Ke P "self" 1397 (.ref 544), Ke P "name" 1398 (Vs "mulhsu" 1347), Ke P "kind" 1399 (Vs "R" 1337), Ke P "opcode" 1400 (.int 51 270), Ke P "third" 1401 (.int 2 1393), Ke P "seventh" 1402 (.int 1 1338)] 6), #[]⟩
def o546 (P : Pm) : Obj := Tp #[.int 3 1413, Vs "mulhu" 1348]
def o549 (P : Pm) : Obj := Sq 548
def o550 (P : Pm) : Obj := Sz P 1424 "mulhu" 1348 1426 "R" 1337 1428 51 270 1430 3 1413 1432 1 1338
def o551 (P : Pm) : Obj := Sp 550
noncomputable def o552 (P : Pm) : Obj := ⟨(.type "frame"), none, (.dict #[Ke P "self" 1417 (.ref 551), Ke P "name" 1418 (Vs "mulhu" 1348), Ke P "kind" 1419 (Vs "R" 1337), Ke P "opcode" 1420 (.int 51 270), Ke P "third" 1421 (.int 3 1413), Ke P "seventh" 1422 (.int 1 1338)] 6), #[]⟩
def o553 (P : Pm) : Obj := Tp #[.int 4 1433, Vs "div" 1349]
def o556 (P : Pm) : Obj := Sq 555
def o557 (P : Pm) : Obj := Sz P 1444 "div" 1349 1446 "R" 1337 1448 51 270 1450 4 1433 1452 1 1338
def o558 (P : Pm) : Obj := Sp 557
noncomputable def o559 (P : Pm) : Obj := ⟨(.type "frame"), none, (.dict #[Ke P "self" 1437 (.ref 558), Ke P "name" 1438 (Vs "div" 1349), Ke P "kind" 1439 (Vs "R" 1337), Ke P "opcode" 1440 (.int 51 270), Ke P "third" 1441 (.int 4 1433), Ke P "seventh" 1442 (.int 1 1338)] 6), #[]⟩
def o560 (P : Pm) : Obj := Tp #[.int 5 1453, Vs "divu" 1350]
def o563 (P : Pm) : Obj := Sq 562
def o564 (P : Pm) : Obj := Sz P 1464 "divu" 1350 1466 "R" 1337 1468 51 270 1470 5 1453 1472 1 1338
def o565 (P : Pm) : Obj := Sp 564
noncomputable def o566 (P : Pm) : Obj := ⟨(.type "frame"), none, (.dict #[Ke P "self" 1457 (.ref 565), Ke P "name" 1458 (Vs "divu" 1350), Ke P "kind" 1459 (Vs "R" 1337), Ke P "opcode" 1460 (.int 51 270), Ke P "third" 1461 (.int 5 1453), Ke P "seventh" 1462 (.int 1 1338)] 6), #[]⟩
def o567 (P : Pm) : Obj := Tp #[.int 6 1473, Vs "rem" 1351]
def o570 (P : Pm) : Obj := Sq 569
def o571 (P : Pm) : Obj := Sz P 1484 "rem" 1351 1486 "R" 1337 1488 51 270 1490 6 1473 1492 1 1338
def o572 (P : Pm) : Obj := Sp 571
noncomputable def o573 (P : Pm) : Obj := ⟨(.type "frame"), none, (.dict #[Ke P "self" 1477 (.ref 572), Ke P "name" 1478 (Vs "rem" 1351), Ke P "kind" 1479 (Vs "R" 1337), Ke P "opcode" 1480 (.int 51 270), Ke P "third" 1481 (.int 6 1473), Ke P "seventh" 1482 (.int 1 1338)] 6), #[]⟩
def o574 (P : Pm) : Obj := Tp #[.int 7 1493, Vs "remu" 1352]
def o577 (P : Pm) : Obj := Sq 576
def o578 (P : Pm) : Obj := Sz P 1504 "remu" 1352 1506 "R" 1337 1508 51 270 1510 7 1493 1512 1 1338
def o579 (P : Pm) : Obj := Sp 578
noncomputable def o580 (P : Pm) : Obj := ⟨(.type "frame"), none, (.dict #[Ke P "self" 1497 (.ref 579), Ke P "name" 1498 (Vs "remu" 1352), Ke P "kind" 1499 (Vs "R" 1337), Ke P "opcode" 1500 (.int 51 270), Ke P "third" 1501 (.int 7 1493), Ke P "seventh" 1502 (.int 1 1338)] 6), #[]⟩
def o582 (P : Pm) : Obj := Sq 581
noncomputable def o583 (P : Pm) : Obj := ⟨(.type "frame"), none, (.dict #[Ke P "names" 1515 (Vs "fence fence.i" 1513), Ke P "kind" 1516 (Vs "fence" 1514), Ke P "opcode" 1517 (.int 15 262), Ke P "seventh" 1518 (.int 0 379), Ke P "found" 1519 (.ref 584), Ke P "third" 1524 (.int 1 1543), Ke P "name" 1525 (Vs "fence.i" 1522)] 7), #[]⟩
noncomputable def o584 (P : Pm) : Obj := ⟨(.type "list"), none, .seq #[.ref 593, .ref 600] 2, #[]⟩
noncomputable def o585 (P : Pm) : Obj := ⟨(.type "list"), none, .seq #[Vs "fence" 1521, Vs "fence.i" 1522] 0, #[]⟩
def o586 (P : Pm) : Obj := Fx "list_iterator" #[.none, Iz 2]
def o587 (P : Pm) : Obj := Fx "enumerate" #[.none, .bool false, .ref 586, Iz 2, .none, Vs "fence.i" 1522]
def o588 (P : Pm) : Obj := Tp #[.int 0 1523, Vs "fence" 1521]
def o591 (P : Pm) : Obj := Sq 590
def o592 (P : Pm) : Obj := Sz P 1534 "fence" 1521 1536 "fence" 1514 1538 15 262 1540 0 1523 1542 0 379
def o593 (P : Pm) : Obj := Sp 592
noncomputable def o594 (P : Pm) : Obj := ⟨(.type "frame"), none, (.dict #[Ke P "self" 1527 (.ref 593), Ke P "name" 1528 (Vs "fence" 1521), Ke P "kind" 1529 (Vs "fence" 1514), Ke P "opcode" 1530 (.int 15 262), Ke P "third" 1531 (.int 0 1523), Ke P "seventh" 1532 (.int 0 379)] 6), #[]⟩
def o595 (P : Pm) : Obj := Tp #[.int 1 1543, Vs "fence.i" 1522]
def o598 (P : Pm) : Obj := Sq 597
def o599 (P : Pm) : Obj := Sz P 1554 "fence.i" 1522 1556 "fence" 1514 1558 15 262 1560 1 1543 1562 0 379
def o600 (P : Pm) : Obj := Sp 599
noncomputable def o601 (P : Pm) : Obj := ⟨(.type "frame"), none, (.dict #[Ke P "self" 1547 (.ref 600), Ke P "name" 1548 (Vs "fence.i" 1522), Ke P "kind" 1549 (Vs "fence" 1514), Ke P "opcode" 1550 (.int 15 262), Ke P "third" 1551 (.int 1 1543), Ke P "seventh" 1552 (.int 0 379)] 6), #[]⟩
def o603 (P : Pm) : Obj := Sq 602
noncomputable def o604 (P : Pm) : Obj := ⟨(.type "frame"), none, (.dict #[Ke P "names" 1565 (Vs "- csrrw csrrs csrrc" 1563), Ke P "kind" 1566 (Vs "CSR" 1564), Ke P "opcode" 1567 (.int 115 280), Ke P "seventh" 1568 (.int 0 379), Ke P "found" 1569 (.ref 605), Ke P "third" 1576 (.int 3 1619), Ke P "name" 1577 (Vs "csrrc" 1574)] 7), #[]⟩
noncomputable def o605 (P : Pm) : Obj := ⟨(.type "list"), none, .seq #[.ref 618, .ref 625, .ref 632] 3, #[]⟩
noncomputable def o606 (P : Pm) : Obj := ⟨(.type "list"), none, .seq #[Vs "-" 1571, Vs "csrrw" 1572, Vs "csrrs" 1573, Vs "csrrc" 1574] 0, #[]⟩
def o607 (P : Pm) : Obj := Fx "list_iterator" #[.none, Iz 4]
def o608 (P : Pm) : Obj := Fx "enumerate" #[.none, .bool false, .ref 607, Iz 4, .none, Vs "csrrc" 1574]
def o609 (P : Pm) : Obj := Tp #[.int 0 1575, Vs "-" 1571]
def o612 (P : Pm) : Obj := Sq 611
def o613 (P : Pm) : Obj := Tp #[.int 1 1579, Vs "csrrw" 1572]
def o616 (P : Pm) : Obj := Sq 615
def o617 (P : Pm) : Obj := Sz P 1590 "csrrw" 1572 1592 "CSR" 1564 1594 115 280 1596 1 1579 1598 0 379
def o618 (P : Pm) : Obj := Sp 617
noncomputable def o619 (P : Pm) : Obj := ⟨(.type "frame"), none, (.dict #[Ke P "self" 1583 (.ref 618), Ke P "name" 1584 (Vs "csrrw" 1572), Ke P "kind" 1585 (Vs "CSR" 1564), Ke P "opcode" 1586 (.int 115 280), Ke P "third" 1587 (.int 1 1579), Ke P "seventh" 1588 (.int 0 379)] 6), #[]⟩
def o620 (P : Pm) : Obj := Tp #[.int 2 1599, Vs "csrrs" 1573]
def o623 (P : Pm) : Obj := Sq 622
def o624 (P : Pm) : Obj := Sz P 1610 "csrrs" 1573 1612 "CSR" 1564 1614 115 280 1616 2 1599 1618 0 379
def o625 (P : Pm) : Obj := Sp 624
noncomputable def o626 (P : Pm) : Obj := ⟨(.type "frame"), none, (.dict #[Ke P "self" 1603 (.ref 625), Ke P "name" 1604 (Vs "csrrs" 1573), Ke P "kind" 1605 (Vs "CSR" 1564), Ke P "opcode" 1606 (.int 115 280), Ke P "third" 1607 (.int 2 1599), Ke P "seventh" 1608 (.int 0 379)] 6), #[]⟩
def o627 (P : Pm) : Obj := Tp #[.int 3 1619, Vs "csrrc" 1574]
def o630 (P : Pm) : Obj := Sq 629
def o631 (P : Pm) : Obj := Sz P 1630 "csrrc" 1574 1632 "CSR" 1564 1634 115 280 1636 3 1619 1638 0 379
def o632 (P : Pm) : Obj := Sp 631
noncomputable def o633 (P : Pm) : Obj := ⟨(.type "frame"), none, (.dict #[Ke P "self" 1623 (.ref 632), Ke P "name" 1624 (Vs "csrrc" 1574), Ke P "kind" 1625 (Vs "CSR" 1564), Ke P "opcode" 1626 (.int 115 280), Ke P "third" 1627 (.int 3 1619), Ke P "seventh" 1628 (.int 0 379)] 6), #[]⟩
def o635 (P : Pm) : Obj := Sq 634
noncomputable def o147_2 (P : Pm) : Obj := ⟨(.type "frame"), none, (.dict #[Ke P "found" 486 (.ref 160), Ke P "name" 1765 (Vs "mret" 1763), Ke P "number" 1766 (.int 770 1764)] 3), #[]⟩
noncomputable def o160_4 (P : Pm) : Obj := ⟨(.type "list"), none, .seq #[.ref 149, .ref 152, .ref 155, .ref 158, .ref 171, .ref 178, .ref 193, .ref 200, .ref 207, .ref 214, .ref 228, .ref 235, .ref 242, .ref 253, .ref 260, .ref 274, .ref 281, .ref 288, .ref 302, .ref 313, .ref 320, .ref 327, .ref 338, .ref 345, .ref 363, .ref 382, .ref 416, .ref 430, .ref 437, .ref 444, .ref 451, .ref 458, .ref 465, .ref 472, .ref 479, .ref 493, .ref 516, .ref 530, .ref 537, .ref 544, .ref 551, .ref 558, .ref 565, .ref 572, .ref 579, .ref 593, .ref 600, .ref 618, .ref 625, .ref 632, .ref 666, .ref 673, .ref 680, .ref 685, .ref 698, .ref 704, .ref 710, .ref 716, .ref 722] 18, #[]⟩
noncomputable def o636 (P : Pm) : Obj := ⟨(.type "frame"), none, (.dict #[Ke P "names" 1641 (Vs "- - - - - csrrwi csrrsi csrrci" 1639), Ke P "kind" 1642 (Vs "CSRI" 1640), Ke P "opcode" 1643 (.int 115 280), Ke P "seventh" 1644 (.int 0 379), Ke P "found" 1645 (.ref 637), Ke P "third" 1656 (.int 7 1715), Ke P "name" 1657 (Vs "csrrci" 1654)] 7), #[]⟩
noncomputable def o637 (P : Pm) : Obj := ⟨(.type "list"), none, .seq #[.ref 666, .ref 673, .ref 680] 3, #[]⟩
noncomputable def o638 (P : Pm) : Obj := ⟨(.type "list"), none, .seq #[Vs "-" 1647, Vs "-" 1648, Vs "-" 1649, Vs "-" 1650, Vs "-" 1651, Vs "csrrwi" 1652, Vs "csrrsi" 1653, Vs "csrrci" 1654] 0, #[]⟩
def o640 (P : Pm) : Obj := Fx "enumerate" #[.none, .bool false, .ref 639, Iz 8, .none, Vs "csrrci" 1654]
def o641 (P : Pm) : Obj := Tp #[.int 0 1655, Vs "-" 1647]
def o644 (P : Pm) : Obj := Sq 643
def o645 (P : Pm) : Obj := Tp #[.int 1 1659, Vs "-" 1648]
def o648 (P : Pm) : Obj := Sq 647
def o649 (P : Pm) : Obj := Tp #[.int 2 1663, Vs "-" 1649]
def o652 (P : Pm) : Obj := Sq 651
def o653 (P : Pm) : Obj := Tp #[.int 3 1667, Vs "-" 1650]
def o656 (P : Pm) : Obj := Sq 655
def o657 (P : Pm) : Obj := Tp #[.int 4 1671, Vs "-" 1651]
def o660 (P : Pm) : Obj := Sq 659
def o661 (P : Pm) : Obj := Tp #[.int 5 1675, Vs "csrrwi" 1652]
def o664 (P : Pm) : Obj := Sq 663
def o665 (P : Pm) : Obj := Sz P 1686 "csrrwi" 1652 1688 "CSRI" 1640 1690 115 280 1692 5 1675 1694 0 379
def o666 (P : Pm) : Obj := Sp 665
noncomputable def o667 (P : Pm) : Obj := ⟨(.type "frame"), none, (.dict #[Ke P "self" 1679 (.ref 666), Ke P "name" 1680 (Vs "csrrwi" 1652), Ke P "kind" 1681 (Vs "CSRI" 1640), Ke P "opcode" 1682 (.int 115 280), Ke P "third" 1683 (.int 5 1675), Ke P "seventh" 1684 (.int 0 379)] 6), #[]⟩
def o668 (P : Pm) : Obj := Tp #[.int 6 1695, Vs "csrrsi" 1653]
def o671 (P : Pm) : Obj := Sq 670
def o672 (P : Pm) : Obj := Sz P 1706 "csrrsi" 1653 1708 "CSRI" 1640 1710 115 280 1712 6 1695 1714 0 379
def o673 (P : Pm) : Obj := Sp 672
noncomputable def o674 (P : Pm) : Obj := ⟨(.type "frame"), none, (.dict #[Ke P "self" 1699 (.ref 673), Ke P "name" 1700 (Vs "csrrsi" 1653), Ke P "kind" 1701 (Vs "CSRI" 1640), Ke P "opcode" 1702 (.int 115 280), Ke P "third" 1703 (.int 6 1695), Ke P "seventh" 1704 (.int 0 379)] 6), #[]⟩
def o675 (P : Pm) : Obj := Tp #[.int 7 1715, Vs "csrrci" 1654]
def o678 (P : Pm) : Obj := Sq 677
def o679 (P : Pm) : Obj := Sz P 1726 "csrrci" 1654 1728 "CSRI" 1640 1730 115 280 1732 7 1715 1734 0 379
def o680 (P : Pm) : Obj := Sp 679
noncomputable def o681 (P : Pm) : Obj := ⟨(.type "frame"), none, (.dict #[Ke P "self" 1719 (.ref 680), Ke P "name" 1720 (Vs "csrrci" 1654), Ke P "kind" 1721 (Vs "CSRI" 1640), Ke P "opcode" 1722 (.int 115 280), Ke P "third" 1723 (.int 7 1715), Ke P "seventh" 1724 (.int 0 379)] 6), #[]⟩
def o683 (P : Pm) : Obj := Sq 682
def o684 (P : Pm) : Obj := Sz P 1746 "sfence.vma" 1735 1748 "flush" 1736 1750 115 280 1752 0 1737 1754 9 1738
def o685 (P : Pm) : Obj := Sp 684
noncomputable def o686 (P : Pm) : Obj := ⟨(.type "frame"), none, (.dict #[Ke P "self" 1739 (.ref 685), Ke P "name" 1740 (Vs "sfence.vma" 1735), Ke P "kind" 1741 (Vs "flush" 1736), Ke P "opcode" 1742 (.int 115 280), Ke P "third" 1743 (.int 0 1737), Ke P "seventh" 1744 (.int 9 1738)] 6), #[]⟩
def o687 (P : Pm) : Obj := Tp #[Vs "ecall" 1755, .int 0 1756]
def o688 (P : Pm) : Obj := Tp #[Vs "ebreak" 1757, .int 1 1758]
def o689 (P : Pm) : Obj := Tp #[Vs "sret" 1759, .int 258 1760]
def o690 (P : Pm) : Obj := Tp #[Vs "wfi" 1761, .int 261 1762]
def o691 (P : Pm) : Obj := Tp #[Vs "mret" 1763, .int 770 1764]
def o692 (P : Pm) : Obj := Tp #[.ref 687, .ref 688, .ref 689, .ref 690, .ref 691]
def o693 (P : Pm) : Obj := Fx "tuple_iterator" #[.none, Iz 5]
def o696 (P : Pm) : Obj := Sq 695
def o697 (P : Pm) : Obj := Sz P 1778 "ecall" 1755 1780 "system" 1767 1782 115 1770 1784 0 345 1786 0 346
def o698 (P : Pm) : Obj := Sp 697
noncomputable def o699 (P : Pm) : Obj := ⟨(.type "frame"), none, (.dict #[Ke P "self" 1771 (.ref 698), Ke P "name" 1772 (Vs "ecall" 1755), Ke P "kind" 1773 (Vs "system" 1767), Ke P "opcode" 1774 (.int 115 1770), Ke P "third" 1775 (.int 0 345), Ke P "seventh" 1776 (.int 0 346)] 6), #[]⟩
def o702 (P : Pm) : Obj := Sq 701
def o703 (P : Pm) : Obj := Sz P 1800 "ebreak" 1757 1802 "system" 1789 1804 1048691 1792 1806 0 345 1808 0 346
def o704 (P : Pm) : Obj := Sp 703
noncomputable def o705 (P : Pm) : Obj := ⟨(.type "frame"), none, (.dict #[Ke P "self" 1793 (.ref 704), Ke P "name" 1794 (Vs "ebreak" 1757), Ke P "kind" 1795 (Vs "system" 1789), Ke P "opcode" 1796 (.int 1048691 1792), Ke P "third" 1797 (.int 0 345), Ke P "seventh" 1798 (.int 0 346)] 6), #[]⟩
def o708 (P : Pm) : Obj := Sq 707
def o709 (P : Pm) : Obj := Sz P 1822 "sret" 1759 1824 "system" 1811 1826 270532723 1814 1828 0 345 1830 0 346
def o710 (P : Pm) : Obj := Sp 709
noncomputable def o711 (P : Pm) : Obj := ⟨(.type "frame"), none, (.dict #[Ke P "self" 1815 (.ref 710), Ke P "name" 1816 (Vs "sret" 1759), Ke P "kind" 1817 (Vs "system" 1811), Ke P "opcode" 1818 (.int 270532723 1814), Ke P "third" 1819 (.int 0 345), Ke P "seventh" 1820 (.int 0 346)] 6), #[]⟩
def o714 (P : Pm) : Obj := Sq 713
def o715 (P : Pm) : Obj := Sz P 1844 "wfi" 1761 1846 "system" 1833 1848 273678451 1836 1850 0 345 1852 0 346
def o716 (P : Pm) : Obj := Sp 715
noncomputable def o717 (P : Pm) : Obj := ⟨(.type "frame"), none, (.dict #[Ke P "self" 1837 (.ref 716), Ke P "name" 1838 (Vs "wfi" 1761), Ke P "kind" 1839 (Vs "system" 1833), Ke P "opcode" 1840 (.int 273678451 1836), Ke P "third" 1841 (.int 0 345), Ke P "seventh" 1842 (.int 0 346)] 6), #[]⟩
def o720 (P : Pm) : Obj := Sq 719
def o721 (P : Pm) : Obj := Sz P 1866 "mret" 1763 1868 "system" 1855 1870 807403635 1858 1872 0 345 1874 0 346
def o722 (P : Pm) : Obj := Sp 721
noncomputable def o723 (P : Pm) : Obj := ⟨(.type "frame"), none, (.dict #[Ke P "self" 1859 (.ref 722), Ke P "name" 1860 (Vs "mret" 1763), Ke P "kind" 1861 (Vs "system" 1855), Ke P "opcode" 1862 (.int 807403635 1858), Ke P "third" 1863 (.int 0 345), Ke P "seventh" 1864 (.int 0 346)] 6), #[]⟩
def o725 (P : Pm) : Obj := Sq 724
def o142_1 (P : Pm) : Obj := Dc 4 #[Ke P "__module__" 409 (Vs "pipeboard.isa" 258), Ke P "__qualname__" 411 (Vs "Known" 410), Ke P "__firstlineno__" 413 (.int 73 412), Ke P "SHAPES" 1875 (.ref 160)]
def o726 (P : Pm) : Obj := Fx "list_iterator" #[.ref 160, Iz 0]
def o727 (P : Pm) : Obj := Dc 0 #[]
def o726_1 (P : Pm) : Obj := Fx "list_iterator" #[.none, Iz 59]
def o727_1 (P : Pm) : Obj := Dc 59 #[Ke P "lui" 414 (.ref 149), Ke P "auipc" 432 (.ref 152), Ke P "jal" 450 (.ref 155), Ke P "jalr" 468 (.ref 158), Ke P "beq" 495 (.ref 171), Ke P "bne" 496 (.ref 178), Ke P "blt" 499 (.ref 193), Ke P "bge" 500 (.ref 200), Ke P "bltu" 501 (.ref 207), Ke P "bgeu" 502 (.ref 214), Ke P "lb" 639 (.ref 228), Ke P "lh" 640 (.ref 235), Ke P "lw" 641 (.ref 242), Ke P "lbu" 643 (.ref 253), Ke P "lhu" 644 (.ref 260), Ke P "sb" 757 (.ref 274), Ke P "sh" 758 (.ref 281), Ke P "sw" 759 (.ref 288), Ke P "addi" 828 (.ref 302), Ke P "slti" 830 (.ref 313), Ke P "sltiu" 831 (.ref 320), Ke P "xori" 832 (.ref 327), Ke P "ori" 834 (.ref 338), Ke P "andi" 835 (.ref 345), Ke P "slli" 973 (.ref 363), Ke P "srli" 977 (.ref 382), Ke P "srai" 1048 (.ref 416), Ke P "add" 1097 (.ref 430), Ke P "sll" 1098 (.ref 437), Ke P "slt" 1099 (.ref 444), Ke P "sltu" 1100 (.ref 451), Ke P "xor" 1101 (.ref 458), Ke P "srl" 1102 (.ref 465), Ke P "or" 1103 (.ref 472), Ke P "and" 1104 (.ref 479), Ke P "sub" 1274 (.ref 493), Ke P "sra" 1279 (.ref 516), Ke P "mul" 1345 (.ref 530), Ke P "mulh" 1346 (.ref 537), Ke P "mulhsu" 1347 (.ref 544), Ke P "mulhu" 1348 (.ref 551), Ke P "div" 1349 (.ref 558), Ke P "divu" 1350 (.ref 565), Ke P "rem" 1351 (.ref 572), Ke P "remu" 1352 (.ref 579), Ke P "fence" 1521 (.ref 593), Ke P "fence.i" 1522 (.ref 600), Ke P "csrrw" 1572 (.ref 618), Ke P "csrrs" 1573 (.ref 625), Ke P "csrrc" 1574 (.ref 632), Ke P "csrrwi" 1652 (.ref 666), Ke P "csrrsi" 1653 (.ref 673), Ke P "csrrci" 1654 (.ref 680), Ke P "sfence.vma" 1735 (.ref 685), Ke P "ecall" 1755 (.ref 698), Ke P "ebreak" 1757 (.ref 704), Ke P "sret" 1759 (.ref 710), Ke P "wfi" 1761 (.ref 716), Ke P "mret" 1763 (.ref 722)]
def o728_1 (P : Pm) : Obj := Dc 1 #[Ke P "shape" 1876 (.ref 722)]
def o730 (P : Pm) : Obj := Sq 729
def o142_2 (P : Pm) : Obj := Dc 5 #[Ke P "__module__" 409 (Vs "pipeboard.isa" 258), Ke P "__qualname__" 411 (Vs "Known" 410), Ke P "__firstlineno__" 413 (.int 73 412), Ke P "SHAPES" 1875 (.ref 160), Ke P "BY_NAME" 2053 (.ref 727)]
def o728_2 (P : Pm) : Obj := Dc 2 #[]
def o732_1 (P : Pm) : Obj := Dc 3 #[⟨55, .int 55 272, (.ref 149)⟩, ⟨23, .int 23 266, (.ref 152)⟩, ⟨111, .int 111 278, (.ref 155)⟩]
def o733_1 (P : Pm) : Obj := Dc 1 #[Ke P "shape" 2054 (.ref 722)]
def o734 (P : Pm) : Obj := Tp #[Vs "U" 2056, Vs "J" 2057]
def o735 (P : Pm) : Obj := Tp #[Vs "U" 2062, Vs "J" 2063]
def o736 (P : Pm) : Obj := Tp #[Vs "U" 2068, Vs "J" 2069]
def o737 (P : Pm) : Obj := Tp #[Vs "U" 2074, Vs "J" 2075]
def o738 (P : Pm) : Obj := Tp #[Vs "U" 2078, Vs "J" 2079]
def o739 (P : Pm) : Obj := Tp #[Vs "U" 2082, Vs "J" 2083]
def o740 (P : Pm) : Obj := Tp #[Vs "U" 2086, Vs "J" 2087]
def o741 (P : Pm) : Obj := Tp #[Vs "U" 2090, Vs "J" 2091]
def o742 (P : Pm) : Obj := Tp #[Vs "U" 2094, Vs "J" 2095]
def o743 (P : Pm) : Obj := Tp #[Vs "U" 2098, Vs "J" 2099]
def o744 (P : Pm) : Obj := Tp #[Vs "U" 2102, Vs "J" 2103]
def o745 (P : Pm) : Obj := Tp #[Vs "U" 2106, Vs "J" 2107]
def o746 (P : Pm) : Obj := Tp #[Vs "U" 2110, Vs "J" 2111]
def o747 (P : Pm) : Obj := Tp #[Vs "U" 2114, Vs "J" 2115]
def o748 (P : Pm) : Obj := Tp #[Vs "U" 2118, Vs "J" 2119]
def o749 (P : Pm) : Obj := Tp #[Vs "U" 2122, Vs "J" 2123]
def o750 (P : Pm) : Obj := Tp #[Vs "U" 2126, Vs "J" 2127]
def o751 (P : Pm) : Obj := Tp #[Vs "U" 2130, Vs "J" 2131]
def o752 (P : Pm) : Obj := Tp #[Vs "U" 2134, Vs "J" 2135]
def o753 (P : Pm) : Obj := Tp #[Vs "U" 2138, Vs "J" 2139]
def o754 (P : Pm) : Obj := Tp #[Vs "U" 2142, Vs "J" 2143]
def o755 (P : Pm) : Obj := Tp #[Vs "U" 2146, Vs "J" 2147]
def o756 (P : Pm) : Obj := Tp #[Vs "U" 2150, Vs "J" 2151]
def o757 (P : Pm) : Obj := Tp #[Vs "U" 2154, Vs "J" 2155]
def o758 (P : Pm) : Obj := Tp #[Vs "U" 2158, Vs "J" 2159]
def o759 (P : Pm) : Obj := Tp #[Vs "U" 2162, Vs "J" 2163]
def o760 (P : Pm) : Obj := Tp #[Vs "U" 2166, Vs "J" 2167]
def o761 (P : Pm) : Obj := Tp #[Vs "U" 2170, Vs "J" 2171]
def o762 (P : Pm) : Obj := Tp #[Vs "U" 2174, Vs "J" 2175]
def o763 (P : Pm) : Obj := Tp #[Vs "U" 2178, Vs "J" 2179]
def o764 (P : Pm) : Obj := Tp #[Vs "U" 2182, Vs "J" 2183]
def o765 (P : Pm) : Obj := Tp #[Vs "U" 2186, Vs "J" 2187]
def o766 (P : Pm) : Obj := Tp #[Vs "U" 2190, Vs "J" 2191]
def o767 (P : Pm) : Obj := Tp #[Vs "U" 2194, Vs "J" 2195]
def o768 (P : Pm) : Obj := Tp #[Vs "U" 2198, Vs "J" 2199]
def o769 (P : Pm) : Obj := Tp #[Vs "U" 2202, Vs "J" 2203]
def o770 (P : Pm) : Obj := Tp #[Vs "U" 2206, Vs "J" 2207]
def o771 (P : Pm) : Obj := Tp #[Vs "U" 2210, Vs "J" 2211]
def o772 (P : Pm) : Obj := Tp #[Vs "U" 2214, Vs "J" 2215]
def o773 (P : Pm) : Obj := Tp #[Vs "U" 2218, Vs "J" 2219]
def o774 (P : Pm) : Obj := Tp #[Vs "U" 2222, Vs "J" 2223]
def o775 (P : Pm) : Obj := Tp #[Vs "U" 2226, Vs "J" 2227]
def o776 (P : Pm) : Obj := Tp #[Vs "U" 2230, Vs "J" 2231]
def o777 (P : Pm) : Obj := Tp #[Vs "U" 2234, Vs "J" 2235]
def o778 (P : Pm) : Obj := Tp #[Vs "U" 2238, Vs "J" 2239]
def o779 (P : Pm) : Obj := Tp #[Vs "U" 2242, Vs "J" 2243]
def o780 (P : Pm) : Obj := Tp #[Vs "U" 2246, Vs "J" 2247]
def o781 (P : Pm) : Obj := Tp #[Vs "U" 2250, Vs "J" 2251]
def o782 (P : Pm) : Obj := Tp #[Vs "U" 2254, Vs "J" 2255]
def o783 (P : Pm) : Obj := Tp #[Vs "U" 2258, Vs "J" 2259]
def o784 (P : Pm) : Obj := Tp #[Vs "U" 2262, Vs "J" 2263]
def o785 (P : Pm) : Obj := Tp #[Vs "U" 2266, Vs "J" 2267]
def o786 (P : Pm) : Obj := Tp #[Vs "U" 2270, Vs "J" 2271]
def o787 (P : Pm) : Obj := Tp #[Vs "U" 2274, Vs "J" 2275]
def o788 (P : Pm) : Obj := Tp #[Vs "U" 2278, Vs "J" 2279]
def o789 (P : Pm) : Obj := Tp #[Vs "U" 2282, Vs "J" 2283]
def o790 (P : Pm) : Obj := Tp #[Vs "U" 2286, Vs "J" 2287]
def o791 (P : Pm) : Obj := Tp #[Vs "U" 2290, Vs "J" 2291]
def o792 (P : Pm) : Obj := Tp #[Vs "U" 2294, Vs "J" 2295]
def o794 (P : Pm) : Obj := Sq 793
def o142_3 (P : Pm) : Obj := Dc 6 #[Ke P "__module__" 409 (Vs "pipeboard.isa" 258), Ke P "__qualname__" 411 (Vs "Known" 410), Ke P "__firstlineno__" 413 (.int 73 412), Ke P "SHAPES" 1875 (.ref 160), Ke P "BY_NAME" 2053 (.ref 727), Ke P "BY_OPCODE" 2296 (.ref 732)]
def o796_1 (P : Pm) : Obj := Dc 29 #[⟨103, .int 103 2338, (.ref 158)⟩, ⟨99, .int 99 2357, (.ref 171)⟩, ⟨4195, .int 4195 2376, (.ref 178)⟩, ⟨16483, .int 16483 2395, (.ref 193)⟩, ⟨20579, .int 20579 2414, (.ref 200)⟩, ⟨24675, .int 24675 2433, (.ref 207)⟩, ⟨28771, .int 28771 2452, (.ref 214)⟩, ⟨3, .int 3 2471, (.ref 228)⟩, ⟨4099, .int 4099 2490, (.ref 235)⟩, ⟨8195, .int 8195 2509, (.ref 242)⟩, ⟨16387, .int 16387 2528, (.ref 253)⟩, ⟨20483, .int 20483 2547, (.ref 260)⟩, ⟨35, .int 35 2566, (.ref 274)⟩, ⟨4131, .int 4131 2585, (.ref 281)⟩, ⟨8227, .int 8227 2604, (.ref 288)⟩, ⟨19, .int 19 2623, (.ref 302)⟩, ⟨8211, .int 8211 2642, (.ref 313)⟩, ⟨12307, .int 12307 2661, (.ref 320)⟩, ⟨16403, .int 16403 2680, (.ref 327)⟩, ⟨24595, .int 24595 2699, (.ref 338)⟩, ⟨28691, .int 28691 2718, (.ref 345)⟩, ⟨15, .int 15 2905, (.ref 593)⟩, ⟨4111, .int 4111 2924, (.ref 600)⟩, ⟨4211, .int 4211 2943, (.ref 618)⟩, ⟨8307, .int 8307 2962, (.ref 625)⟩, ⟨12403, .int 12403 2981, (.ref 632)⟩, ⟨20595, .int 20595 3000, (.ref 666)⟩, ⟨24691, .int 24691 3019, (.ref 673)⟩, ⟨28787, .int 28787 3038, (.ref 680)⟩]
def o797_1 (P : Pm) : Obj := Dc 1 #[Ke P "shape" 2297 (.ref 722)]
def o798 (P : Pm) : Obj := Tp #[Vs "I" 2299, Vs "S" 2300, Vs "B" 2301, Vs "fence" 2302, Vs "CSR" 2303, Vs "CSRI" 2304]
def o799 (P : Pm) : Obj := Tp #[Vs "I" 2307, Vs "S" 2308, Vs "B" 2309, Vs "fence" 2310, Vs "CSR" 2311, Vs "CSRI" 2312]
def o800 (P : Pm) : Obj := Tp #[Vs "I" 2315, Vs "S" 2316, Vs "B" 2317, Vs "fence" 2318, Vs "CSR" 2319, Vs "CSRI" 2320]
def o801 (P : Pm) : Obj := Tp #[Vs "I" 2323, Vs "S" 2324, Vs "B" 2325, Vs "fence" 2326, Vs "CSR" 2327, Vs "CSRI" 2328]
noncomputable def o802 (P : Pm) : Obj := ⟨(.type "frame"), none, (.dict #[Ke P "self" 2329 (.ref 158)] 1), #[]⟩
def o803 (P : Pm) : Obj := Tp #[Vs "I" 2342, Vs "S" 2343, Vs "B" 2344, Vs "fence" 2345, Vs "CSR" 2346, Vs "CSRI" 2347]
noncomputable def o804 (P : Pm) : Obj := ⟨(.type "frame"), none, (.dict #[Ke P "self" 2348 (.ref 171)] 1), #[]⟩
def o805 (P : Pm) : Obj := Tp #[Vs "I" 2361, Vs "S" 2362, Vs "B" 2363, Vs "fence" 2364, Vs "CSR" 2365, Vs "CSRI" 2366]
noncomputable def o806 (P : Pm) : Obj := ⟨(.type "frame"), none, (.dict #[Ke P "self" 2367 (.ref 178)] 1), #[]⟩
def o807 (P : Pm) : Obj := Tp #[Vs "I" 2380, Vs "S" 2381, Vs "B" 2382, Vs "fence" 2383, Vs "CSR" 2384, Vs "CSRI" 2385]
noncomputable def o808 (P : Pm) : Obj := ⟨(.type "frame"), none, (.dict #[Ke P "self" 2386 (.ref 193)] 1), #[]⟩
def o809 (P : Pm) : Obj := Tp #[Vs "I" 2399, Vs "S" 2400, Vs "B" 2401, Vs "fence" 2402, Vs "CSR" 2403, Vs "CSRI" 2404]
noncomputable def o810 (P : Pm) : Obj := ⟨(.type "frame"), none, (.dict #[Ke P "self" 2405 (.ref 200)] 1), #[]⟩
def o811 (P : Pm) : Obj := Tp #[Vs "I" 2418, Vs "S" 2419, Vs "B" 2420, Vs "fence" 2421, Vs "CSR" 2422, Vs "CSRI" 2423]
noncomputable def o812 (P : Pm) : Obj := ⟨(.type "frame"), none, (.dict #[Ke P "self" 2424 (.ref 207)] 1), #[]⟩
def o813 (P : Pm) : Obj := Tp #[Vs "I" 2437, Vs "S" 2438, Vs "B" 2439, Vs "fence" 2440, Vs "CSR" 2441, Vs "CSRI" 2442]
noncomputable def o814 (P : Pm) : Obj := ⟨(.type "frame"), none, (.dict #[Ke P "self" 2443 (.ref 214)] 1), #[]⟩
def o815 (P : Pm) : Obj := Tp #[Vs "I" 2456, Vs "S" 2457, Vs "B" 2458, Vs "fence" 2459, Vs "CSR" 2460, Vs "CSRI" 2461]
noncomputable def o816 (P : Pm) : Obj := ⟨(.type "frame"), none, (.dict #[Ke P "self" 2462 (.ref 228)] 1), #[]⟩
def o817 (P : Pm) : Obj := Tp #[Vs "I" 2475, Vs "S" 2476, Vs "B" 2477, Vs "fence" 2478, Vs "CSR" 2479, Vs "CSRI" 2480]
noncomputable def o818 (P : Pm) : Obj := ⟨(.type "frame"), none, (.dict #[Ke P "self" 2481 (.ref 235)] 1), #[]⟩
def o819 (P : Pm) : Obj := Tp #[Vs "I" 2494, Vs "S" 2495, Vs "B" 2496, Vs "fence" 2497, Vs "CSR" 2498, Vs "CSRI" 2499]
noncomputable def o820 (P : Pm) : Obj := ⟨(.type "frame"), none, (.dict #[Ke P "self" 2500 (.ref 242)] 1), #[]⟩
def o821 (P : Pm) : Obj := Tp #[Vs "I" 2513, Vs "S" 2514, Vs "B" 2515, Vs "fence" 2516, Vs "CSR" 2517, Vs "CSRI" 2518]
noncomputable def o822 (P : Pm) : Obj := ⟨(.type "frame"), none, (.dict #[Ke P "self" 2519 (.ref 253)] 1), #[]⟩
def o823 (P : Pm) : Obj := Tp #[Vs "I" 2532, Vs "S" 2533, Vs "B" 2534, Vs "fence" 2535, Vs "CSR" 2536, Vs "CSRI" 2537]
noncomputable def o824 (P : Pm) : Obj := ⟨(.type "frame"), none, (.dict #[Ke P "self" 2538 (.ref 260)] 1), #[]⟩
def o825 (P : Pm) : Obj := Tp #[Vs "I" 2551, Vs "S" 2552, Vs "B" 2553, Vs "fence" 2554, Vs "CSR" 2555, Vs "CSRI" 2556]
noncomputable def o826 (P : Pm) : Obj := ⟨(.type "frame"), none, (.dict #[Ke P "self" 2557 (.ref 274)] 1), #[]⟩
def o827 (P : Pm) : Obj := Tp #[Vs "I" 2570, Vs "S" 2571, Vs "B" 2572, Vs "fence" 2573, Vs "CSR" 2574, Vs "CSRI" 2575]
noncomputable def o828 (P : Pm) : Obj := ⟨(.type "frame"), none, (.dict #[Ke P "self" 2576 (.ref 281)] 1), #[]⟩
def o829 (P : Pm) : Obj := Tp #[Vs "I" 2589, Vs "S" 2590, Vs "B" 2591, Vs "fence" 2592, Vs "CSR" 2593, Vs "CSRI" 2594]
noncomputable def o830 (P : Pm) : Obj := ⟨(.type "frame"), none, (.dict #[Ke P "self" 2595 (.ref 288)] 1), #[]⟩
def o831 (P : Pm) : Obj := Tp #[Vs "I" 2608, Vs "S" 2609, Vs "B" 2610, Vs "fence" 2611, Vs "CSR" 2612, Vs "CSRI" 2613]
noncomputable def o832 (P : Pm) : Obj := ⟨(.type "frame"), none, (.dict #[Ke P "self" 2614 (.ref 302)] 1), #[]⟩
def o833 (P : Pm) : Obj := Tp #[Vs "I" 2627, Vs "S" 2628, Vs "B" 2629, Vs "fence" 2630, Vs "CSR" 2631, Vs "CSRI" 2632]
noncomputable def o834 (P : Pm) : Obj := ⟨(.type "frame"), none, (.dict #[Ke P "self" 2633 (.ref 313)] 1), #[]⟩
def o835 (P : Pm) : Obj := Tp #[Vs "I" 2646, Vs "S" 2647, Vs "B" 2648, Vs "fence" 2649, Vs "CSR" 2650, Vs "CSRI" 2651]
noncomputable def o836 (P : Pm) : Obj := ⟨(.type "frame"), none, (.dict #[Ke P "self" 2652 (.ref 320)] 1), #[]⟩
def o837 (P : Pm) : Obj := Tp #[Vs "I" 2665, Vs "S" 2666, Vs "B" 2667, Vs "fence" 2668, Vs "CSR" 2669, Vs "CSRI" 2670]
noncomputable def o838 (P : Pm) : Obj := ⟨(.type "frame"), none, (.dict #[Ke P "self" 2671 (.ref 327)] 1), #[]⟩
def o839 (P : Pm) : Obj := Tp #[Vs "I" 2684, Vs "S" 2685, Vs "B" 2686, Vs "fence" 2687, Vs "CSR" 2688, Vs "CSRI" 2689]
noncomputable def o840 (P : Pm) : Obj := ⟨(.type "frame"), none, (.dict #[Ke P "self" 2690 (.ref 338)] 1), #[]⟩
def o841 (P : Pm) : Obj := Tp #[Vs "I" 2703, Vs "S" 2704, Vs "B" 2705, Vs "fence" 2706, Vs "CSR" 2707, Vs "CSRI" 2708]
noncomputable def o842 (P : Pm) : Obj := ⟨(.type "frame"), none, (.dict #[Ke P "self" 2709 (.ref 345)] 1), #[]⟩
def o843 (P : Pm) : Obj := Tp #[Vs "I" 2722, Vs "S" 2723, Vs "B" 2724, Vs "fence" 2725, Vs "CSR" 2726, Vs "CSRI" 2727]
def o844 (P : Pm) : Obj := Tp #[Vs "I" 2730, Vs "S" 2731, Vs "B" 2732, Vs "fence" 2733, Vs "CSR" 2734, Vs "CSRI" 2735]
def o845 (P : Pm) : Obj := Tp #[Vs "I" 2738, Vs "S" 2739, Vs "B" 2740, Vs "fence" 2741, Vs "CSR" 2742, Vs "CSRI" 2743]
def o846 (P : Pm) : Obj := Tp #[Vs "I" 2746, Vs "S" 2747, Vs "B" 2748, Vs "fence" 2749, Vs "CSR" 2750, Vs "CSRI" 2751]
def o847 (P : Pm) : Obj := Tp #[Vs "I" 2754, Vs "S" 2755, Vs "B" 2756, Vs "fence" 2757, Vs "CSR" 2758, Vs "CSRI" 2759]
def o848 (P : Pm) : Obj := Tp #[Vs "I" 2762, Vs "S" 2763, Vs "B" 2764, Vs "fence" 2765, Vs "CSR" 2766, Vs "CSRI" 2767]
def o849 (P : Pm) : Obj := Tp #[Vs "I" 2770, Vs "S" 2771, Vs "B" 2772, Vs "fence" 2773, Vs "CSR" 2774, Vs "CSRI" 2775]
def o850 (P : Pm) : Obj := Tp #[Vs "I" 2778, Vs "S" 2779, Vs "B" 2780, Vs "fence" 2781, Vs "CSR" 2782, Vs "CSRI" 2783]
def o851 (P : Pm) : Obj := Tp #[Vs "I" 2786, Vs "S" 2787, Vs "B" 2788, Vs "fence" 2789, Vs "CSR" 2790, Vs "CSRI" 2791]
def o852 (P : Pm) : Obj := Tp #[Vs "I" 2794, Vs "S" 2795, Vs "B" 2796, Vs "fence" 2797, Vs "CSR" 2798, Vs "CSRI" 2799]
def o853 (P : Pm) : Obj := Tp #[Vs "I" 2802, Vs "S" 2803, Vs "B" 2804, Vs "fence" 2805, Vs "CSR" 2806, Vs "CSRI" 2807]
def o854 (P : Pm) : Obj := Tp #[Vs "I" 2810, Vs "S" 2811, Vs "B" 2812, Vs "fence" 2813, Vs "CSR" 2814, Vs "CSRI" 2815]
def o855 (P : Pm) : Obj := Tp #[Vs "I" 2818, Vs "S" 2819, Vs "B" 2820, Vs "fence" 2821, Vs "CSR" 2822, Vs "CSRI" 2823]
def o856 (P : Pm) : Obj := Tp #[Vs "I" 2826, Vs "S" 2827, Vs "B" 2828, Vs "fence" 2829, Vs "CSR" 2830, Vs "CSRI" 2831]
def o857 (P : Pm) : Obj := Tp #[Vs "I" 2834, Vs "S" 2835, Vs "B" 2836, Vs "fence" 2837, Vs "CSR" 2838, Vs "CSRI" 2839]
def o858 (P : Pm) : Obj := Tp #[Vs "I" 2842, Vs "S" 2843, Vs "B" 2844, Vs "fence" 2845, Vs "CSR" 2846, Vs "CSRI" 2847]
def o859 (P : Pm) : Obj := Tp #[Vs "I" 2850, Vs "S" 2851, Vs "B" 2852, Vs "fence" 2853, Vs "CSR" 2854, Vs "CSRI" 2855]
def o860 (P : Pm) : Obj := Tp #[Vs "I" 2858, Vs "S" 2859, Vs "B" 2860, Vs "fence" 2861, Vs "CSR" 2862, Vs "CSRI" 2863]
def o861 (P : Pm) : Obj := Tp #[Vs "I" 2866, Vs "S" 2867, Vs "B" 2868, Vs "fence" 2869, Vs "CSR" 2870, Vs "CSRI" 2871]
def o862 (P : Pm) : Obj := Tp #[Vs "I" 2874, Vs "S" 2875, Vs "B" 2876, Vs "fence" 2877, Vs "CSR" 2878, Vs "CSRI" 2879]
def o863 (P : Pm) : Obj := Tp #[Vs "I" 2882, Vs "S" 2883, Vs "B" 2884, Vs "fence" 2885, Vs "CSR" 2886, Vs "CSRI" 2887]
def o864 (P : Pm) : Obj := Tp #[Vs "I" 2890, Vs "S" 2891, Vs "B" 2892, Vs "fence" 2893, Vs "CSR" 2894, Vs "CSRI" 2895]
noncomputable def o865 (P : Pm) : Obj := ⟨(.type "frame"), none, (.dict #[Ke P "self" 2896 (.ref 593)] 1), #[]⟩
def o866 (P : Pm) : Obj := Tp #[Vs "I" 2909, Vs "S" 2910, Vs "B" 2911, Vs "fence" 2912, Vs "CSR" 2913, Vs "CSRI" 2914]
noncomputable def o867 (P : Pm) : Obj := ⟨(.type "frame"), none, (.dict #[Ke P "self" 2915 (.ref 600)] 1), #[]⟩
def o868 (P : Pm) : Obj := Tp #[Vs "I" 2928, Vs "S" 2929, Vs "B" 2930, Vs "fence" 2931, Vs "CSR" 2932, Vs "CSRI" 2933]
noncomputable def o869 (P : Pm) : Obj := ⟨(.type "frame"), none, (.dict #[Ke P "self" 2934 (.ref 618)] 1), #[]⟩
def o870 (P : Pm) : Obj := Tp #[Vs "I" 2947, Vs "S" 2948, Vs "B" 2949, Vs "fence" 2950, Vs "CSR" 2951, Vs "CSRI" 2952]
noncomputable def o871 (P : Pm) : Obj := ⟨(.type "frame"), none, (.dict #[Ke P "self" 2953 (.ref 625)] 1), #[]⟩
def o872 (P : Pm) : Obj := Tp #[Vs "I" 2966, Vs "S" 2967, Vs "B" 2968, Vs "fence" 2969, Vs "CSR" 2970, Vs "CSRI" 2971]
noncomputable def o873 (P : Pm) : Obj := ⟨(.type "frame"), none, (.dict #[Ke P "self" 2972 (.ref 632)] 1), #[]⟩
def o874 (P : Pm) : Obj := Tp #[Vs "I" 2985, Vs "S" 2986, Vs "B" 2987, Vs "fence" 2988, Vs "CSR" 2989, Vs "CSRI" 2990]
noncomputable def o875 (P : Pm) : Obj := ⟨(.type "frame"), none, (.dict #[Ke P "self" 2991 (.ref 666)] 1), #[]⟩
def o876 (P : Pm) : Obj := Tp #[Vs "I" 3004, Vs "S" 3005, Vs "B" 3006, Vs "fence" 3007, Vs "CSR" 3008, Vs "CSRI" 3009]
noncomputable def o877 (P : Pm) : Obj := ⟨(.type "frame"), none, (.dict #[Ke P "self" 3010 (.ref 673)] 1), #[]⟩
def o878 (P : Pm) : Obj := Tp #[Vs "I" 3023, Vs "S" 3024, Vs "B" 3025, Vs "fence" 3026, Vs "CSR" 3027, Vs "CSRI" 3028]
noncomputable def o879 (P : Pm) : Obj := ⟨(.type "frame"), none, (.dict #[Ke P "self" 3029 (.ref 680)] 1), #[]⟩
def o880 (P : Pm) : Obj := Tp #[Vs "I" 3042, Vs "S" 3043, Vs "B" 3044, Vs "fence" 3045, Vs "CSR" 3046, Vs "CSRI" 3047]
def o881 (P : Pm) : Obj := Tp #[Vs "I" 3050, Vs "S" 3051, Vs "B" 3052, Vs "fence" 3053, Vs "CSR" 3054, Vs "CSRI" 3055]
def o882 (P : Pm) : Obj := Tp #[Vs "I" 3058, Vs "S" 3059, Vs "B" 3060, Vs "fence" 3061, Vs "CSR" 3062, Vs "CSRI" 3063]
def o883 (P : Pm) : Obj := Tp #[Vs "I" 3066, Vs "S" 3067, Vs "B" 3068, Vs "fence" 3069, Vs "CSR" 3070, Vs "CSRI" 3071]
def o884 (P : Pm) : Obj := Tp #[Vs "I" 3074, Vs "S" 3075, Vs "B" 3076, Vs "fence" 3077, Vs "CSR" 3078, Vs "CSRI" 3079]
def o885 (P : Pm) : Obj := Tp #[Vs "I" 3082, Vs "S" 3083, Vs "B" 3084, Vs "fence" 3085, Vs "CSR" 3086, Vs "CSRI" 3087]
def o887 (P : Pm) : Obj := Sq 886
def o142_4 (P : Pm) : Obj := Dc 7 #[Ke P "__module__" 409 (Vs "pipeboard.isa" 258), Ke P "__qualname__" 411 (Vs "Known" 410), Ke P "__firstlineno__" 413 (.int 73 412), Ke P "SHAPES" 1875 (.ref 160), Ke P "BY_NAME" 2053 (.ref 727), Ke P "BY_OPCODE" 2296 (.ref 732), Ke P "BY_THIRD" 3088 (.ref 796)]
def o889_1 (P : Pm) : Obj := Dc 22 #[⟨4115, .int 4115 3223, (.ref 363)⟩, ⟨20499, .int 20499 3239, (.ref 382)⟩, ⟨1073762323, .int 1073762323 3255, (.ref 416)⟩, ⟨51, .int 51 3271, (.ref 430)⟩, ⟨4147, .int 4147 3287, (.ref 437)⟩, ⟨8243, .int 8243 3303, (.ref 444)⟩, ⟨12339, .int 12339 3319, (.ref 451)⟩, ⟨16435, .int 16435 3335, (.ref 458)⟩, ⟨20531, .int 20531 3351, (.ref 465)⟩, ⟨24627, .int 24627 3367, (.ref 472)⟩, ⟨28723, .int 28723 3383, (.ref 479)⟩, ⟨1073741875, .int 1073741875 3399, (.ref 493)⟩, ⟨1073762355, .int 1073762355 3415, (.ref 516)⟩, ⟨33554483, .int 33554483 3431, (.ref 530)⟩, ⟨33558579, .int 33558579 3447, (.ref 537)⟩, ⟨33562675, .int 33562675 3463, (.ref 544)⟩, ⟨33566771, .int 33566771 3479, (.ref 551)⟩, ⟨33570867, .int 33570867 3495, (.ref 558)⟩, ⟨33574963, .int 33574963 3511, (.ref 565)⟩, ⟨33579059, .int 33579059 3527, (.ref 572)⟩, ⟨33583155, .int 33583155 3543, (.ref 579)⟩, ⟨301990003, .int 301990003 3599, (.ref 685)⟩]
def o890_1 (P : Pm) : Obj := Dc 1 #[Ke P "shape" 3089 (.ref 722)]
def o891 (P : Pm) : Obj := Tp #[Vs "R" 3091, Vs "shift" 3092, Vs "flush" 3093]
def o892 (P : Pm) : Obj := Tp #[Vs "R" 3096, Vs "shift" 3097, Vs "flush" 3098]
def o893 (P : Pm) : Obj := Tp #[Vs "R" 3101, Vs "shift" 3102, Vs "flush" 3103]
def o894 (P : Pm) : Obj := Tp #[Vs "R" 3106, Vs "shift" 3107, Vs "flush" 3108]
def o895 (P : Pm) : Obj := Tp #[Vs "R" 3111, Vs "shift" 3112, Vs "flush" 3113]
def o896 (P : Pm) : Obj := Tp #[Vs "R" 3116, Vs "shift" 3117, Vs "flush" 3118]
def o897 (P : Pm) : Obj := Tp #[Vs "R" 3121, Vs "shift" 3122, Vs "flush" 3123]
def o898 (P : Pm) : Obj := Tp #[Vs "R" 3126, Vs "shift" 3127, Vs "flush" 3128]
def o899 (P : Pm) : Obj := Tp #[Vs "R" 3131, Vs "shift" 3132, Vs "flush" 3133]
def o900 (P : Pm) : Obj := Tp #[Vs "R" 3136, Vs "shift" 3137, Vs "flush" 3138]
def o901 (P : Pm) : Obj := Tp #[Vs "R" 3141, Vs "shift" 3142, Vs "flush" 3143]
def o902 (P : Pm) : Obj := Tp #[Vs "R" 3146, Vs "shift" 3147, Vs "flush" 3148]
def o903 (P : Pm) : Obj := Tp #[Vs "R" 3151, Vs "shift" 3152, Vs "flush" 3153]
def o904 (P : Pm) : Obj := Tp #[Vs "R" 3156, Vs "shift" 3157, Vs "flush" 3158]
def o905 (P : Pm) : Obj := Tp #[Vs "R" 3161, Vs "shift" 3162, Vs "flush" 3163]
def o906 (P : Pm) : Obj := Tp #[Vs "R" 3166, Vs "shift" 3167, Vs "flush" 3168]
def o907 (P : Pm) : Obj := Tp #[Vs "R" 3171, Vs "shift" 3172, Vs "flush" 3173]
def o908 (P : Pm) : Obj := Tp #[Vs "R" 3176, Vs "shift" 3177, Vs "flush" 3178]
def o909 (P : Pm) : Obj := Tp #[Vs "R" 3181, Vs "shift" 3182, Vs "flush" 3183]
def o910 (P : Pm) : Obj := Tp #[Vs "R" 3186, Vs "shift" 3187, Vs "flush" 3188]
def o911 (P : Pm) : Obj := Tp #[Vs "R" 3191, Vs "shift" 3192, Vs "flush" 3193]
def o912 (P : Pm) : Obj := Tp #[Vs "R" 3196, Vs "shift" 3197, Vs "flush" 3198]
def o913 (P : Pm) : Obj := Tp #[Vs "R" 3201, Vs "shift" 3202, Vs "flush" 3203]
def o914 (P : Pm) : Obj := Tp #[Vs "R" 3206, Vs "shift" 3207, Vs "flush" 3208]
def o915 (P : Pm) : Obj := Tp #[Vs "R" 3211, Vs "shift" 3212, Vs "flush" 3213]
noncomputable def o916 (P : Pm) : Obj := ⟨(.type "frame"), none, (.dict #[Ke P "self" 3214 (.ref 363)] 1), #[]⟩
def o917 (P : Pm) : Obj := Tp #[Vs "R" 3227, Vs "shift" 3228, Vs "flush" 3229]
noncomputable def o918 (P : Pm) : Obj := ⟨(.type "frame"), none, (.dict #[Ke P "self" 3230 (.ref 382)] 1), #[]⟩
def o919 (P : Pm) : Obj := Tp #[Vs "R" 3243, Vs "shift" 3244, Vs "flush" 3245]
noncomputable def o920 (P : Pm) : Obj := ⟨(.type "frame"), none, (.dict #[Ke P "self" 3246 (.ref 416)] 1), #[]⟩
def o921 (P : Pm) : Obj := Tp #[Vs "R" 3259, Vs "shift" 3260, Vs "flush" 3261]
noncomputable def o922 (P : Pm) : Obj := ⟨(.type "frame"), none, (.dict #[Ke P "self" 3262 (.ref 430)] 1), #[]⟩
def o923 (P : Pm) : Obj := Tp #[Vs "R" 3275, Vs "shift" 3276, Vs "flush" 3277]
noncomputable def o924 (P : Pm) : Obj := ⟨(.type "frame"), none, (.dict #[Ke P "self" 3278 (.ref 437)] 1), #[]⟩
def o925 (P : Pm) : Obj := Tp #[Vs "R" 3291, Vs "shift" 3292, Vs "flush" 3293]
noncomputable def o926 (P : Pm) : Obj := ⟨(.type "frame"), none, (.dict #[Ke P "self" 3294 (.ref 444)] 1), #[]⟩
def o927 (P : Pm) : Obj := Tp #[Vs "R" 3307, Vs "shift" 3308, Vs "flush" 3309]
noncomputable def o928 (P : Pm) : Obj := ⟨(.type "frame"), none, (.dict #[Ke P "self" 3310 (.ref 451)] 1), #[]⟩
def o929 (P : Pm) : Obj := Tp #[Vs "R" 3323, Vs "shift" 3324, Vs "flush" 3325]
noncomputable def o930 (P : Pm) : Obj := ⟨(.type "frame"), none, (.dict #[Ke P "self" 3326 (.ref 458)] 1), #[]⟩
def o931 (P : Pm) : Obj := Tp #[Vs "R" 3339, Vs "shift" 3340, Vs "flush" 3341]
noncomputable def o932 (P : Pm) : Obj := ⟨(.type "frame"), none, (.dict #[Ke P "self" 3342 (.ref 465)] 1), #[]⟩
def o933 (P : Pm) : Obj := Tp #[Vs "R" 3355, Vs "shift" 3356, Vs "flush" 3357]
noncomputable def o934 (P : Pm) : Obj := ⟨(.type "frame"), none, (.dict #[Ke P "self" 3358 (.ref 472)] 1), #[]⟩
def o935 (P : Pm) : Obj := Tp #[Vs "R" 3371, Vs "shift" 3372, Vs "flush" 3373]
noncomputable def o936 (P : Pm) : Obj := ⟨(.type "frame"), none, (.dict #[Ke P "self" 3374 (.ref 479)] 1), #[]⟩
def o937 (P : Pm) : Obj := Tp #[Vs "R" 3387, Vs "shift" 3388, Vs "flush" 3389]
noncomputable def o938 (P : Pm) : Obj := ⟨(.type "frame"), none, (.dict #[Ke P "self" 3390 (.ref 493)] 1), #[]⟩
def o939 (P : Pm) : Obj := Tp #[Vs "R" 3403, Vs "shift" 3404, Vs "flush" 3405]
noncomputable def o940 (P : Pm) : Obj := ⟨(.type "frame"), none, (.dict #[Ke P "self" 3406 (.ref 516)] 1), #[]⟩
def o941 (P : Pm) : Obj := Tp #[Vs "R" 3419, Vs "shift" 3420, Vs "flush" 3421]
noncomputable def o942 (P : Pm) : Obj := ⟨(.type "frame"), none, (.dict #[Ke P "self" 3422 (.ref 530)] 1), #[]⟩
def o943 (P : Pm) : Obj := Tp #[Vs "R" 3435, Vs "shift" 3436, Vs "flush" 3437]
noncomputable def o944 (P : Pm) : Obj := ⟨(.type "frame"), none, (.dict #[Ke P "self" 3438 (.ref 537)] 1), #[]⟩
def o945 (P : Pm) : Obj := Tp #[Vs "R" 3451, Vs "shift" 3452, Vs "flush" 3453]
noncomputable def o946 (P : Pm) : Obj := ⟨(.type "frame"), none, (.dict #[Ke P "self" 3454 (.ref 544)] 1), #[]⟩
def o947 (P : Pm) : Obj := Tp #[Vs "R" 3467, Vs "shift" 3468, Vs "flush" 3469]
noncomputable def o948 (P : Pm) : Obj := ⟨(.type "frame"), none, (.dict #[Ke P "self" 3470 (.ref 551)] 1), #[]⟩
def o949 (P : Pm) : Obj := Tp #[Vs "R" 3483, Vs "shift" 3484, Vs "flush" 3485]
noncomputable def o950 (P : Pm) : Obj := ⟨(.type "frame"), none, (.dict #[Ke P "self" 3486 (.ref 558)] 1), #[]⟩
def o951 (P : Pm) : Obj := Tp #[Vs "R" 3499, Vs "shift" 3500, Vs "flush" 3501]
noncomputable def o952 (P : Pm) : Obj := ⟨(.type "frame"), none, (.dict #[Ke P "self" 3502 (.ref 565)] 1), #[]⟩
def o953 (P : Pm) : Obj := Tp #[Vs "R" 3515, Vs "shift" 3516, Vs "flush" 3517]
noncomputable def o954 (P : Pm) : Obj := ⟨(.type "frame"), none, (.dict #[Ke P "self" 3518 (.ref 572)] 1), #[]⟩
def o955 (P : Pm) : Obj := Tp #[Vs "R" 3531, Vs "shift" 3532, Vs "flush" 3533]
noncomputable def o956 (P : Pm) : Obj := ⟨(.type "frame"), none, (.dict #[Ke P "self" 3534 (.ref 579)] 1), #[]⟩
def o957 (P : Pm) : Obj := Tp #[Vs "R" 3547, Vs "shift" 3548, Vs "flush" 3549]
def o958 (P : Pm) : Obj := Tp #[Vs "R" 3552, Vs "shift" 3553, Vs "flush" 3554]
def o959 (P : Pm) : Obj := Tp #[Vs "R" 3557, Vs "shift" 3558, Vs "flush" 3559]
def o960 (P : Pm) : Obj := Tp #[Vs "R" 3562, Vs "shift" 3563, Vs "flush" 3564]
def o961 (P : Pm) : Obj := Tp #[Vs "R" 3567, Vs "shift" 3568, Vs "flush" 3569]
def o962 (P : Pm) : Obj := Tp #[Vs "R" 3572, Vs "shift" 3573, Vs "flush" 3574]
def o963 (P : Pm) : Obj := Tp #[Vs "R" 3577, Vs "shift" 3578, Vs "flush" 3579]
def o964 (P : Pm) : Obj := Tp #[Vs "R" 3582, Vs "shift" 3583, Vs "flush" 3584]
def o965 (P : Pm) : Obj := Tp #[Vs "R" 3587, Vs "shift" 3588, Vs "flush" 3589]
noncomputable def o966 (P : Pm) : Obj := ⟨(.type "frame"), none, (.dict #[Ke P "self" 3590 (.ref 685)] 1), #[]⟩
def o967 (P : Pm) : Obj := Tp #[Vs "R" 3603, Vs "shift" 3604, Vs "flush" 3605]
def o968 (P : Pm) : Obj := Tp #[Vs "R" 3608, Vs "shift" 3609, Vs "flush" 3610]
def o969 (P : Pm) : Obj := Tp #[Vs "R" 3613, Vs "shift" 3614, Vs "flush" 3615]
def o970 (P : Pm) : Obj := Tp #[Vs "R" 3618, Vs "shift" 3619, Vs "flush" 3620]
def o971 (P : Pm) : Obj := Tp #[Vs "R" 3623, Vs "shift" 3624, Vs "flush" 3625]
def o973 (P : Pm) : Obj := Sq 972
def o142_5 (P : Pm) : Obj := Dc 8 #[Ke P "__module__" 409 (Vs "pipeboard.isa" 258), Ke P "__qualname__" 411 (Vs "Known" 410), Ke P "__firstlineno__" 413 (.int 73 412), Ke P "SHAPES" 1875 (.ref 160), Ke P "BY_NAME" 2053 (.ref 727), Ke P "BY_OPCODE" 2296 (.ref 732), Ke P "BY_THIRD" 3088 (.ref 796), Ke P "BY_SEVENTH" 3626 (.ref 889)]
def o975_1 (P : Pm) : Obj := Dc 5 #[⟨115, .int 115 1770, (.ref 698)⟩, ⟨1048691, .int 1048691 1792, (.ref 704)⟩, ⟨270532723, .int 270532723 1814, (.ref 710)⟩, ⟨273678451, .int 273678451 1836, (.ref 716)⟩, ⟨807403635, .int 807403635 1858, (.ref 722)⟩]
def o976_1 (P : Pm) : Obj := Dc 1 #[Ke P "shape" 3627 (.ref 722)]
def o978 (P : Pm) : Obj := Sq 977
def o142_6 (P : Pm) : Obj := Dc 9 #[Ke P "__module__" 409 (Vs "pipeboard.isa" 258), Ke P "__qualname__" 411 (Vs "Known" 410), Ke P "__firstlineno__" 413 (.int 73 412), Ke P "SHAPES" 1875 (.ref 160), Ke P "BY_NAME" 2053 (.ref 727), Ke P "BY_OPCODE" 2296 (.ref 732), Ke P "BY_THIRD" 3088 (.ref 796), Ke P "BY_SEVENTH" 3626 (.ref 889), Ke P "WHOLE" 3814 (.ref 975)]
def o3_2 (P : Pm) : Obj := Dc 28 #[Ke P "__name__" 165 (Vs "pipeboard.isa" 258), Ke P "__doc__" 166 .none, Ke P "__package__" 167 .none, Ke P "__loader__" 168 (.builtin "__main__.__loader__#opaque"), Ke P "__spec__" 169 .none, Ke P "__annotations__" 170 (.ref 6), Ke P "__builtins__" 171 (.ref 4), Ke P "__file__" 173 (Vs "/claim/cut.py" 172), Ke P "__cached__" 174 .none, Ke P "BoardError" 216 (.ref 32), Ke P "BadArgument" 232 (.ref 45), Ke P "BadInstruction" 257 (.ref 64), Ke P "LOAD" 261 (.int 3 260), Ke P "FENCES" 263 (.int 15 262), Ke P "IMMEDIATE" 265 (.int 19 264), Ke P "AUIPC" 267 (.int 23 266), Ke P "STORE" 269 (.int 35 268), Ke P "REGISTER" 271 (.int 51 270), Ke P "LUI" 273 (.int 55 272), Ke P "BRANCH" 275 (.int 99 274), Ke P "JALR" 277 (.int 103 276), Ke P "JAL" 279 (.int 111 278), Ke P "SYSTEM" 281 (.int 115 280), Ke P "Instruction" 332 (.ref 91), Ke P "Shape" 378 (.ref 120), Ke P "numbered" 392 (.ref 132), Ke P "shapes" 401 (.ref 139), Ke P "Known" 3822 (.ref 981)]
def o142_7 (P : Pm) : Obj := Dc 10 #[Ke P "__module__" 409 (Vs "pipeboard.isa" 258), Ke P "__qualname__" 411 (Vs "Known" 410), Ke P "__firstlineno__" 413 (.int 73 412), Ke P "SHAPES" 1875 (.ref 160), Ke P "BY_NAME" 2053 (.ref 727), Ke P "BY_OPCODE" 2296 (.ref 732), Ke P "BY_THIRD" 3088 (.ref 796), Ke P "BY_SEVENTH" 3626 (.ref 889), Ke P "WHOLE" 3814 (.ref 975), Ke P "__static_attributes__" 3815 (.ref 979)]
def o980 (P : Pm) : Obj := Dc 4 #[Ke P "__module__" 409 (Vs "pipeboard.isa" 258), Ke P "__firstlineno__" 413 (.int 73 412), Ke P "SHAPES" 1875 (.ref 160), Ke P "BY_NAME" 2053 (.ref 727), Ke P "BY_OPCODE" 2296 (.ref 732), Ke P "BY_THIRD" 3088 (.ref 796), Ke P "BY_SEVENTH" 3626 (.ref 889), Ke P "WHOLE" 3814 (.ref 975), Ke P "__static_attributes__" 3815 (.ref 979), Ke P "__dict__" 3817 (.ref 982), Ke P "__weakref__" 3819 (.ref 983), Ke P "__doc__" 3820 .none]
noncomputable def o981 (P : Pm) : Obj := ⟨(.type "type"), none, (.cls { name := (sO "Known"), bases := [(.type "object")], mro := [(.ref 981), .type "object"], ns := 980, qualname := (sO "Known"), hasDict := true, slotNames := [], subclasses := [], abstract := false, collection := none, hasDel := false }), #[none, none, (some (Vs "Known" 402)), (some (Vs "Known" 410)), (some (.builtin "object.__new__")), (some (.bool true))]⟩
def o982 (P : Pm) : Obj := Fx "getset_descriptor" #[Vs "__dict__" 3816, .ref 981, .builtin "function.__dict__", .builtin "function.__dict__#set"]
def o983 (P : Pm) : Obj := Fx "getset_descriptor" #[Vs "__weakref__" 3818, .ref 981, .builtin "ExceptionGroup.__weakref__", .none]
def o984 (P : Pm) : Obj := Fx "super" #[.ref 981, .ref 981, .ref 981]
def o985 (P : Pm) : Obj := Fx "builtin_function_or_method" #[.builtin "object.__init_subclass__", .ref 981]
def o987_1 (P : Pm) : Obj := Dc 59 #[Ke P "lui" 414 (Vs "U" 415), Ke P "auipc" 432 (Vs "U" 433), Ke P "jal" 450 (Vs "J" 451), Ke P "jalr" 468 (Vs "I" 469), Ke P "beq" 495 (Vs "B" 488), Ke P "bne" 496 (Vs "B" 488), Ke P "blt" 499 (Vs "B" 488), Ke P "bge" 500 (Vs "B" 488), Ke P "bltu" 501 (Vs "B" 488), Ke P "bgeu" 502 (Vs "B" 488), Ke P "lb" 639 (Vs "I" 632), Ke P "lh" 640 (Vs "I" 632), Ke P "lw" 641 (Vs "I" 632), Ke P "lbu" 643 (Vs "I" 632), Ke P "lhu" 644 (Vs "I" 632), Ke P "sb" 757 (Vs "S" 750), Ke P "sh" 758 (Vs "S" 750), Ke P "sw" 759 (Vs "S" 750), Ke P "addi" 828 (Vs "I" 821), Ke P "slti" 830 (Vs "I" 821), Ke P "sltiu" 831 (Vs "I" 821), Ke P "xori" 832 (Vs "I" 821), Ke P "ori" 834 (Vs "I" 821), Ke P "andi" 835 (Vs "I" 821), Ke P "slli" 973 (Vs "shift" 965), Ke P "srli" 977 (Vs "shift" 965), Ke P "srai" 1048 (Vs "shift" 1035), Ke P "add" 1097 (Vs "R" 1090), Ke P "sll" 1098 (Vs "R" 1090), Ke P "slt" 1099 (Vs "R" 1090), Ke P "sltu" 1100 (Vs "R" 1090), Ke P "xor" 1101 (Vs "R" 1090), Ke P "srl" 1102 (Vs "R" 1090), Ke P "or" 1103 (Vs "R" 1090), Ke P "and" 1104 (Vs "R" 1090), Ke P "sub" 1274 (Vs "R" 1266), Ke P "sra" 1279 (Vs "R" 1266), Ke P "mul" 1345 (Vs "R" 1337), Ke P "mulh" 1346 (Vs "R" 1337), Ke P "mulhsu" 1347 (Vs "R" 1337), Ke P "mulhu" 1348 (Vs "R" 1337), Ke P "div" 1349 (Vs "R" 1337), Ke P "divu" 1350 (Vs "R" 1337), Ke P "rem" 1351 (Vs "R" 1337), Ke P "remu" 1352 (Vs "R" 1337), Ke P "fence" 1521 (Vs "fence" 1514), Ke P "fence.i" 1522 (Vs "fence" 1514), Ke P "csrrw" 1572 (Vs "CSR" 1564), Ke P "csrrs" 1573 (Vs "CSR" 1564), Ke P "csrrc" 1574 (Vs "CSR" 1564), Ke P "csrrwi" 1652 (Vs "CSRI" 1640), Ke P "csrrsi" 1653 (Vs "CSRI" 1640), Ke P "csrrci" 1654 (Vs "CSRI" 1640), Ke P "sfence.vma" 1735 (Vs "flush" 1736), Ke P "ecall" 1755 (Vs "system" 1767), Ke P "ebreak" 1757 (Vs "system" 1789), Ke P "sret" 1759 (Vs "system" 1811), Ke P "wfi" 1761 (Vs "system" 1833), Ke P "mret" 1763 (Vs "system" 1855)]
def o988_1 (P : Pm) : Obj := Dc 1 #[Ke P "shape" 3824 (.ref 722)]
def o990 (P : Pm) : Obj := Sq 989
def o3_3 (P : Pm) : Obj := Dc 29 #[Ke P "__name__" 165 (Vs "pipeboard.isa" 258), Ke P "__doc__" 166 .none, Ke P "__package__" 167 .none, Ke P "__loader__" 168 (.builtin "__main__.__loader__#opaque"), Ke P "__spec__" 169 .none, Ke P "__annotations__" 170 (.ref 6), Ke P "__builtins__" 171 (.ref 4), Ke P "__file__" 173 (Vs "/claim/cut.py" 172), Ke P "__cached__" 174 .none, Ke P "BoardError" 216 (.ref 32), Ke P "BadArgument" 232 (.ref 45), Ke P "BadInstruction" 257 (.ref 64), Ke P "LOAD" 261 (.int 3 260), Ke P "FENCES" 263 (.int 15 262), Ke P "IMMEDIATE" 265 (.int 19 264), Ke P "AUIPC" 267 (.int 23 266), Ke P "STORE" 269 (.int 35 268), Ke P "REGISTER" 271 (.int 51 270), Ke P "LUI" 273 (.int 55 272), Ke P "BRANCH" 275 (.int 99 274), Ke P "JALR" 277 (.int 103 276), Ke P "JAL" 279 (.int 111 278), Ke P "SYSTEM" 281 (.int 115 280), Ke P "Instruction" 332 (.ref 91), Ke P "Shape" 378 (.ref 120), Ke P "numbered" 392 (.ref 132), Ke P "shapes" 401 (.ref 139), Ke P "Known" 3822 (.ref 981), Ke P "FORMATS" 4060 (.ref 987)]
def o3_4 (P : Pm) : Obj := Dc 52 #[Ke P "__name__" 165 (Vs "law_nz0215_01" 4255), Ke P "__doc__" 166 .none, Ke P "__package__" 167 .none, Ke P "__loader__" 168 (.builtin "__main__.__loader__#opaque"), Ke P "__spec__" 169 .none, Ke P "__annotations__" 170 (.ref 6), Ke P "__builtins__" 171 (.ref 4), Ke P "__file__" 173 (Vs "/claim/cut.py" 172), Ke P "__cached__" 174 .none, Ke P "BoardError" 216 (.ref 32), Ke P "BadArgument" 232 (.ref 45), Ke P "BadInstruction" 257 (.ref 64), Ke P "LOAD" 261 (.int 3 260), Ke P "FENCES" 263 (.int 15 262), Ke P "IMMEDIATE" 265 (.int 19 264), Ke P "AUIPC" 267 (.int 23 266), Ke P "STORE" 269 (.int 35 268), Ke P "REGISTER" 271 (.int 51 270), Ke P "LUI" 273 (.int 55 272), Ke P "BRANCH" 275 (.int 99 274), Ke P "JALR" 277 (.int 103 276), Ke P "JAL" 279 (.int 111 278), Ke P "SYSTEM" 281 (.int 115 280), Ke P "Instruction" 332 (.ref 91), Ke P "Shape" 378 (.ref 120), Ke P "numbered" 392 (.ref 132), Ke P "shapes" 401 (.ref 139), Ke P "Known" 3822 (.ref 981), Ke P "FORMATS" 4060 (.ref 987), Ke P "USED" 4115 (.ref 991), Ke P "RANGES" 4160 (.ref 1004), Ke P "names" 4166 (.ref 1017), Ke P "shape_of" 4173 (.ref 1024), Ke P "check" 4188 (.ref 1031), Ke P "spread_branch" 4195 (.ref 1038), Ke P "spread_jump" 4202 (.ref 1045), Ke P "encode" 4213 (.ref 1052), Ke P "gathered_branch" 4221 (.ref 1059), Ke P "gathered_jump" 4229 (.ref 1066), Ke P "find_shape" 4240 (.ref 1073), Ke P "decode" 4254 (.ref 1080), Ke P "_law_box" 4266 (.ref 1087), Ke P "_law_take" 4276 (.ref 1094), Ke P "_law_row" 4282 (.ref 1099), Ke P "_law_fixed" 4289 (.ref 1106), Ke P "_law_bits" 4302 (.ref 1113), Ke P "_law_drawn" 4316 (.ref 1120), Ke P "_law_told" 4323 (.ref 1127), Ke P "_law_turned_right" 4339 (.ref 1134), Ke P "_law_refuses" 4349 (.ref 1141), Ke P "_law_range_right" 4355 (.ref 1146), Ke P "law" 4361 (.ref 1151)]
def o12_3 (P : Pm) : Obj := Fl #[Iz 2, Iz 0, .ref 20, Iz 7, Iz 0, .ref 41, Iz 9, Iz 0, .ref 53, Iz 26, Iz 0, .ref 72, Iz 38, Iz 0, .ref 101, Iz 49, Iz 0, .ref 131, Iz 55, Iz 0, .ref 138, Iz 73, Iz 0, .ref 145, Iz 83, Iz 0, .ref 1016, Iz 85, Iz 0, .ref 1023, Iz 89, Iz 0, .ref 1030, Iz 104, Iz 0, .ref 1037, Iz 106, Iz 0, .ref 1044, Iz 108, Iz 0, .ref 1051, Iz 128, Iz 0, .ref 1058, Iz 131, Iz 0, .ref 1065, Iz 134, Iz 0, .ref 1072, Iz 146, Iz 0, .ref 1079, Iz 177, Iz 0, .ref 1086, Iz 184, Iz 0, .ref 1093, Iz 193, Iz 0, .ref 1098, Iz 195, Iz 0, .ref 1105, Iz 197, Iz 0, .ref 1112, Iz 225, Iz 0, .ref 1119, Iz 232, Iz 0, .ref 1126, Iz 237, Iz 0, .ref 1133, Iz 248, Iz 0, .ref 1140, Iz 256, Iz 0, .ref 1145, Iz 268, Iz 0, .ref 1150]
def o991 (P : Pm) : Obj := Dc 12 #[Ke P "R" 4061 (.ref 992), Ke P "I" 4065 (.ref 993), Ke P "S" 4069 (.ref 994), Ke P "B" 4073 (.ref 995), Ke P "U" 4077 (.ref 996), Ke P "J" 4080 (.ref 997), Ke P "shift" 4083 (.ref 998), Ke P "fence" 4087 (.ref 999), Ke P "CSR" 4091 (.ref 1000), Ke P "CSRI" 4095 (.ref 1001), Ke P "flush" 4099 (.ref 1002), Ke P "system" 4102 (.ref 1003)]
def o992 (P : Pm) : Obj := Tp #[Vs "rd" 4062, Vs "rs1" 4063, Vs "rs2" 4064]
def o993 (P : Pm) : Obj := Tp #[Vs "rd" 4066, Vs "rs1" 4067, Vs "imm" 4068]
def o994 (P : Pm) : Obj := Tp #[Vs "rs1" 4070, Vs "rs2" 4071, Vs "imm" 4072]
def o995 (P : Pm) : Obj := Tp #[Vs "rs1" 4074, Vs "rs2" 4075, Vs "imm" 4076]
def o996 (P : Pm) : Obj := Tp #[Vs "rd" 4078, Vs "imm" 4079]
def o997 (P : Pm) : Obj := Tp #[Vs "rd" 4081, Vs "imm" 4082]
def o998 (P : Pm) : Obj := Tp #[Vs "rd" 4084, Vs "rs1" 4085, Vs "imm" 4086]
def o999 (P : Pm) : Obj := Tp #[Vs "rd" 4088, Vs "rs1" 4089, Vs "imm" 4090]
def o1000 (P : Pm) : Obj := Tp #[Vs "rd" 4092, Vs "rs1" 4093, Vs "csr" 4094]
def o1001 (P : Pm) : Obj := Tp #[Vs "rd" 4096, Vs "imm" 4097, Vs "csr" 4098]
def o1002 (P : Pm) : Obj := Tp #[Vs "rs1" 4100, Vs "rs2" 4101]
def o1004 (P : Pm) : Obj := Dc 8 #[Ke P "I" 4116 (.ref 1005), Ke P "S" 4121 (.ref 1006), Ke P "B" 4126 (.ref 1007), Ke P "U" 4131 (.ref 1008), Ke P "J" 4135 (.ref 1009), Ke P "shift" 4140 (.ref 1010), Ke P "fence" 4144 (.ref 1011), Ke P "CSRI" 4148 (.ref 1012)]
def o1005 (P : Pm) : Obj := Tp #[(.int (-2048) 4118), .int 2047 4119, .int 1 4120]
def o1006 (P : Pm) : Obj := Tp #[(.int (-2048) 4123), .int 2047 4124, .int 1 4125]
def o1007 (P : Pm) : Obj := Tp #[(.int (-4096) 4128), .int 4094 4129, .int 2 4130]
def o1008 (P : Pm) : Obj := Tp #[.int 0 4132, .int 1048575 4133, .int 1 4134]
def o1009 (P : Pm) : Obj := Tp #[(.int (-1048576) 4137), .int 1048574 4138, .int 2 4139]
def o1010 (P : Pm) : Obj := Tp #[.int 0 4141, .int 31 4142, .int 1 4143]
def o1011 (P : Pm) : Obj := Tp #[.int 0 4145, .int 4095 4146, .int 1 4147]
def o1012 (P : Pm) : Obj := Tp #[.int 0 4149, .int 31 4150, .int 1 4151]
noncomputable def o1015 (P : Pm) : Obj := ⟨.none, none, (Fo "names" "names" (astAt 24) 0 .none .none .none), #[]⟩
def o1016 (P : Pm) : Obj := Fx "code" #[Vs "names" 4161, Vs "names" 4162, Vs "/claim/cut.py" 4163, Iz 83, Iz 0, Iz 0, Iz 0, Iz 3, .ref 1013, .bool true, Iz 181, .ref 1014, .none, .none, .none, .ref 1015, Iz 4164, Iz 83, Vs "/claim/cut.py" 4165]
def o1017 (P : Pm) : Obj := Fw (Fo "names" "names" (astAt 24) 3 .none (Vs "pipeboard.isa" 258) (.ref 1016))
def o1020 (P : Pm) : Obj := Tp #[Vs "name" 4170]
noncomputable def o1022 (P : Pm) : Obj := ⟨.none, none, (Fo "shape_of" "shape_of" (astAt 25) 0 .none .none .none), #[]⟩
def o1023 (P : Pm) : Obj := Fx "code" #[Vs "shape_of" 4167, Vs "shape_of" 4168, Vs "/claim/cut.py" 4169, Iz 85, Iz 1, Iz 0, Iz 0, Iz 3, .ref 1018, .bool true, Iz 181, .ref 1019, .none, .ref 1020, .ref 1021, .ref 1022, Iz 4171, Iz 85, Vs "/claim/cut.py" 4172]
def o1024 (P : Pm) : Obj := Fw (Fo "shape_of" "shape_of" (astAt 25) 3 .none (Vs "pipeboard.isa" 258) (.ref 1023))
def o1027 (P : Pm) : Obj := Tp #[Vs "instruction" 4177, Vs "kind" 4178, Vs "used" 4179, Vs "numbers" 4180, Vs "name" 4181, Vs "number" 4182, Vs "least" 4183, Vs "greatest" 4184, Vs "step" 4185]
noncomputable def o1029 (P : Pm) : Obj := ⟨.none, none, (Fo "check" "check" (astAt 26) 0 .none .none .none), #[]⟩
def o1030 (P : Pm) : Obj := Fx "code" #[Vs "check" 4174, Vs "check" 4175, Vs "/claim/cut.py" 4176, Iz 89, Iz 2, Iz 0, Iz 0, Iz 3, .ref 1025, .bool true, Iz 181, .ref 1026, .none, .ref 1027, .ref 1028, .ref 1029, Iz 4186, Iz 89, Vs "/claim/cut.py" 4187]
def o1031 (P : Pm) : Obj := Fw (Fo "check" "check" (astAt 26) 3 .none (Vs "pipeboard.isa" 258) (.ref 1030))
def o1034 (P : Pm) : Obj := Tp #[Vs "imm" 4192]
noncomputable def o1036 (P : Pm) : Obj := ⟨.none, none, (Fo "spread_branch" "spread_branch" (astAt 27) 0 .none .none .none), #[]⟩
def o1037 (P : Pm) : Obj := Fx "code" #[Vs "spread_branch" 4189, Vs "spread_branch" 4190, Vs "/claim/cut.py" 4191, Iz 104, Iz 1, Iz 0, Iz 0, Iz 3, .ref 1032, .bool true, Iz 181, .ref 1033, .none, .ref 1034, .ref 1035, .ref 1036, Iz 4193, Iz 104, Vs "/claim/cut.py" 4194]
def o1038 (P : Pm) : Obj := Fw (Fo "spread_branch" "spread_branch" (astAt 27) 3 .none (Vs "pipeboard.isa" 258) (.ref 1037))
def o1041 (P : Pm) : Obj := Tp #[Vs "imm" 4199]
noncomputable def o1043 (P : Pm) : Obj := ⟨.none, none, (Fo "spread_jump" "spread_jump" (astAt 28) 0 .none .none .none), #[]⟩
def o1044 (P : Pm) : Obj := Fx "code" #[Vs "spread_jump" 4196, Vs "spread_jump" 4197, Vs "/claim/cut.py" 4198, Iz 106, Iz 1, Iz 0, Iz 0, Iz 3, .ref 1039, .bool true, Iz 181, .ref 1040, .none, .ref 1041, .ref 1042, .ref 1043, Iz 4200, Iz 106, Vs "/claim/cut.py" 4201]
def o1045 (P : Pm) : Obj := Fw (Fo "spread_jump" "spread_jump" (astAt 28) 3 .none (Vs "pipeboard.isa" 258) (.ref 1044))
def o1048 (P : Pm) : Obj := Tp #[Vs "instruction" 4206, Vs "shape" 4207, Vs "kind" 4208, Vs "imm" 4209, Vs "found" 4210]
noncomputable def o1050 (P : Pm) : Obj := ⟨.none, none, (Fo "encode" "encode" (astAt 29) 0 .none .none .none), #[]⟩
def o1051 (P : Pm) : Obj := Fx "code" #[Vs "encode" 4203, Vs "encode" 4204, Vs "/claim/cut.py" 4205, Iz 108, Iz 1, Iz 0, Iz 0, Iz 3, .ref 1046, .bool true, Iz 181, .ref 1047, .none, .ref 1048, .ref 1049, .ref 1050, Iz 4211, Iz 108, Vs "/claim/cut.py" 4212]
def o1052 (P : Pm) : Obj := Fw (Fo "encode" "encode" (astAt 29) 3 .none (Vs "pipeboard.isa" 258) (.ref 1051))
def o1055 (P : Pm) : Obj := Tp #[Vs "word" 4217, Vs "low" 4218]
noncomputable def o1057 (P : Pm) : Obj := ⟨.none, none, (Fo "gathered_branch" "gathered_branch" (astAt 30) 0 .none .none .none), #[]⟩
def o1058 (P : Pm) : Obj := Fx "code" #[Vs "gathered_branch" 4214, Vs "gathered_branch" 4215, Vs "/claim/cut.py" 4216, Iz 128, Iz 1, Iz 0, Iz 0, Iz 3, .ref 1053, .bool true, Iz 181, .ref 1054, .none, .ref 1055, .ref 1056, .ref 1057, Iz 4219, Iz 128, Vs "/claim/cut.py" 4220]
def o1059 (P : Pm) : Obj := Fw (Fo "gathered_branch" "gathered_branch" (astAt 30) 3 .none (Vs "pipeboard.isa" 258) (.ref 1058))
def o1062 (P : Pm) : Obj := Tp #[Vs "word" 4225, Vs "low" 4226]
noncomputable def o1064 (P : Pm) : Obj := ⟨.none, none, (Fo "gathered_jump" "gathered_jump" (astAt 31) 0 .none .none .none), #[]⟩
def o1065 (P : Pm) : Obj := Fx "code" #[Vs "gathered_jump" 4222, Vs "gathered_jump" 4223, Vs "/claim/cut.py" 4224, Iz 131, Iz 1, Iz 0, Iz 0, Iz 3, .ref 1060, .bool true, Iz 181, .ref 1061, .none, .ref 1062, .ref 1063, .ref 1064, Iz 4227, Iz 131, Vs "/claim/cut.py" 4228]
def o1066 (P : Pm) : Obj := Fw (Fo "gathered_jump" "gathered_jump" (astAt 31) 3 .none (Vs "pipeboard.isa" 258) (.ref 1065))
def o1069 (P : Pm) : Obj := Tp #[Vs "word" 4233, Vs "opcode" 4234, Vs "third" 4235, Vs "seventh" 4236, Vs "shape" 4237]
noncomputable def o1071 (P : Pm) : Obj := ⟨.none, none, (Fo "find_shape" "find_shape" (astAt 32) 0 .none .none .none), #[]⟩
def o1072 (P : Pm) : Obj := Fx "code" #[Vs "find_shape" 4230, Vs "find_shape" 4231, Vs "/claim/cut.py" 4232, Iz 134, Iz 1, Iz 0, Iz 0, Iz 3, .ref 1067, .bool true, Iz 181, .ref 1068, .none, .ref 1069, .ref 1070, .ref 1071, Iz 4238, Iz 134, Vs "/claim/cut.py" 4239]
def o1073 (P : Pm) : Obj := Fw (Fo "find_shape" "find_shape" (astAt 32) 3 .none (Vs "pipeboard.isa" 258) (.ref 1072))
def o1076 (P : Pm) : Obj := Tp #[Vs "word" 4244, Vs "shape" 4245, Vs "kind" 4246, Vs "rd" 4247, Vs "rs1" 4248, Vs "rs2" 4249, Vs "high" 4250, Vs "low" 4251]
noncomputable def o1078 (P : Pm) : Obj := ⟨.none, none, (Fo "decode" "decode" (astAt 33) 0 .none .none .none), #[]⟩
def o1079 (P : Pm) : Obj := Fx "code" #[Vs "decode" 4241, Vs "decode" 4242, Vs "/claim/cut.py" 4243, Iz 146, Iz 1, Iz 0, Iz 0, Iz 3, .ref 1074, .bool true, Iz 181, .ref 1075, .none, .ref 1076, .ref 1077, .ref 1078, Iz 4252, Iz 146, Vs "/claim/cut.py" 4253]
def o1080 (P : Pm) : Obj := Fw (Fo "decode" "decode" (astAt 33) 3 .none (Vs "pipeboard.isa" 258) (.ref 1079))
def o1083 (P : Pm) : Obj := Tp #[Vs "script" 4260, Vs "seed" 4261, Vs "great" 4262, Vs "cell" 4263]
noncomputable def o1085 (P : Pm) : Obj := ⟨.none, none, (Fo "_law_box" "_law_box" (astAt 35) 0 .none .none .none), #[]⟩
def o1086 (P : Pm) : Obj := Fx "code" #[Vs "_law_box" 4257, Vs "_law_box" 4258, Vs "/claim/cut.py" 4259, Iz 177, Iz 1, Iz 0, Iz 0, Iz 3, .ref 1081, .bool true, Iz 181, .ref 1082, .none, .ref 1083, .ref 1084, .ref 1085, Iz 4264, Iz 177, Vs "/claim/cut.py" 4265]
def o1087 (P : Pm) : Obj := Fw (Fo "_law_box" "_law_box" (astAt 35) 3 .none (Vs "law_nz0215_01" 4255) (.ref 1086))
def o1090 (P : Pm) : Obj := Tp #[Vs "box" 4270, Vs "many" 4271, Vs "digit" 4272, Vs "mix" 4273]
noncomputable def o1092 (P : Pm) : Obj := ⟨.none, none, (Fo "_law_take" "_law_take" (astAt 36) 0 .none .none .none), #[]⟩
def o1093 (P : Pm) : Obj := Fx "code" #[Vs "_law_take" 4267, Vs "_law_take" 4268, Vs "/claim/cut.py" 4269, Iz 184, Iz 2, Iz 0, Iz 0, Iz 3, .ref 1088, .bool true, Iz 181, .ref 1089, .none, .ref 1090, .ref 1091, .ref 1092, Iz 4274, Iz 184, Vs "/claim/cut.py" 4275]
def o1094 (P : Pm) : Obj := Fw (Fo "_law_take" "_law_take" (astAt 36) 3 .none (Vs "law_nz0215_01" 4255) (.ref 1093))
noncomputable def o1097 (P : Pm) : Obj := ⟨.none, none, (Fo "_law_row" "_law_row" (astAt 37) 0 .none .none .none), #[]⟩
def o1098 (P : Pm) : Obj := Fx "code" #[Vs "_law_row" 4277, Vs "_law_row" 4278, Vs "/claim/cut.py" 4279, Iz 193, Iz 4, Iz 0, Iz 0, Iz 3, .ref 1095, .bool true, Iz 181, .ref 1096, .none, .none, .none, .ref 1097, Iz 4280, Iz 193, Vs "/claim/cut.py" 4281]
def o1099 (P : Pm) : Obj := Fw (Fo "_law_row" "_law_row" (astAt 37) 3 .none (Vs "law_nz0215_01" 4255) (.ref 1098))
def o1102 (P : Pm) : Obj := Tp #[Vs "many" 4286]
noncomputable def o1104 (P : Pm) : Obj := ⟨.none, none, (Fo "_law_fixed" "_law_fixed" (astAt 38) 0 .none .none .none), #[]⟩
def o1105 (P : Pm) : Obj := Fx "code" #[Vs "_law_fixed" 4283, Vs "_law_fixed" 4284, Vs "/claim/cut.py" 4285, Iz 195, Iz 1, Iz 0, Iz 0, Iz 3, .ref 1100, .bool true, Iz 181, .ref 1101, .none, .ref 1102, .ref 1103, .ref 1104, Iz 4287, Iz 195, Vs "/claim/cut.py" 4288]
def o1106 (P : Pm) : Obj := Fw (Fo "_law_fixed" "_law_fixed" (astAt 38) 3 .none (Vs "law_nz0215_01" 4255) (.ref 1105))
def o1109 (P : Pm) : Obj := Tp #[Vs "kind" 4293, Vs "five" 4294, Vs "rd" 4295, Vs "one" 4296, Vs "other" 4297, Vs "tail" 4298, Vs "front" 4299]
noncomputable def o1111 (P : Pm) : Obj := ⟨.none, none, (Fo "_law_bits" "_law_bits" (astAt 39) 0 .none .none .none), #[]⟩
def o1112 (P : Pm) : Obj := Fx "code" #[Vs "_law_bits" 4290, Vs "_law_bits" 4291, Vs "/claim/cut.py" 4292, Iz 197, Iz 1, Iz 0, Iz 0, Iz 3, .ref 1107, .bool true, Iz 181, .ref 1108, .none, .ref 1109, .ref 1110, .ref 1111, Iz 4300, Iz 197, Vs "/claim/cut.py" 4301]
def o1113 (P : Pm) : Obj := Fw (Fo "_law_bits" "_law_bits" (astAt 39) 3 .none (Vs "law_nz0215_01" 4255) (.ref 1112))
def o1116 (P : Pm) : Obj := Tp #[Vs "box" 4306, Vs "name" 4307, Vs "bits" 4308, Vs "whole" 4309, Vs "parts" 4310, Vs "k" 4311, Vs "what" 4312, Vs "worth" 4313]
noncomputable def o1118 (P : Pm) : Obj := ⟨.none, none, (Fo "_law_drawn" "_law_drawn" (astAt 40) 0 .none .none .none), #[]⟩
def o1119 (P : Pm) : Obj := Fx "code" #[Vs "_law_drawn" 4303, Vs "_law_drawn" 4304, Vs "/claim/cut.py" 4305, Iz 225, Iz 3, Iz 0, Iz 0, Iz 3, .ref 1114, .bool true, Iz 181, .ref 1115, .none, .ref 1116, .ref 1117, .ref 1118, Iz 4314, Iz 225, Vs "/claim/cut.py" 4315]
def o1120 (P : Pm) : Obj := Fw (Fo "_law_drawn" "_law_drawn" (astAt 40) 3 .none (Vs "law_nz0215_01" 4255) (.ref 1119))
def o1123 (P : Pm) : Obj := Tp #[Vs "whole" 4320]
noncomputable def o1125 (P : Pm) : Obj := ⟨.none, none, (Fo "_law_told" "_law_told" (astAt 41) 0 .none .none .none), #[]⟩
def o1126 (P : Pm) : Obj := Fx "code" #[Vs "_law_told" 4317, Vs "_law_told" 4318, Vs "/claim/cut.py" 4319, Iz 232, Iz 1, Iz 0, Iz 0, Iz 3, .ref 1121, .bool true, Iz 181, .ref 1122, .none, .ref 1123, .ref 1124, .ref 1125, Iz 4321, Iz 232, Vs "/claim/cut.py" 4322]
def o1127 (P : Pm) : Obj := Fw (Fo "_law_told" "_law_told" (astAt 41) 3 .none (Vs "law_nz0215_01" 4255) (.ref 1126))
def o1130 (P : Pm) : Obj := Tp #[Vs "made" 4327, Vs "whole" 4328, Vs "bits" 4329, Vs "k" 4330, Vs "much" 4331, Vs "what" 4332, Vs "worth" 4333, Vs "other" 4334, Vs "told" 4335, Vs "due" 4336]
noncomputable def o1132 (P : Pm) : Obj := ⟨.none, none, (Fo "_law_turned_right" "_law_turned_right" (astAt 42) 0 .none .none .none), #[]⟩
def o1133 (P : Pm) : Obj := Fx "code" #[Vs "_law_turned_right" 4324, Vs "_law_turned_right" 4325, Vs "/claim/cut.py" 4326, Iz 237, Iz 5, Iz 0, Iz 0, Iz 3, .ref 1128, .bool true, Iz 181, .ref 1129, .none, .ref 1130, .ref 1131, .ref 1132, Iz 4337, Iz 237, Vs "/claim/cut.py" 4338]
def o1134 (P : Pm) : Obj := Fw (Fo "_law_turned_right" "_law_turned_right" (astAt 42) 3 .none (Vs "law_nz0215_01" 4255) (.ref 1133))
def o1137 (P : Pm) : Obj := Tp #[Vs "made" 4343, Vs "what" 4344, Vs "value" 4345, Vs "parts" 4346]
noncomputable def o1139 (P : Pm) : Obj := ⟨.none, none, (Fo "_law_refuses" "_law_refuses" (astAt 43) 0 .none .none .none), #[]⟩
def o1140 (P : Pm) : Obj := Fx "code" #[Vs "_law_refuses" 4340, Vs "_law_refuses" 4341, Vs "/claim/cut.py" 4342, Iz 248, Iz 3, Iz 0, Iz 0, Iz 3, .ref 1135, .bool true, Iz 181, .ref 1136, .none, .ref 1137, .ref 1138, .ref 1139, Iz 4347, Iz 248, Vs "/claim/cut.py" 4348]
def o1141 (P : Pm) : Obj := Fw (Fo "_law_refuses" "_law_refuses" (astAt 43) 3 .none (Vs "law_nz0215_01" 4255) (.ref 1140))
noncomputable def o1144 (P : Pm) : Obj := ⟨.none, none, (Fo "_law_range_right" "_law_range_right" (astAt 44) 0 .none .none .none), #[]⟩
def o1145 (P : Pm) : Obj := Fx "code" #[Vs "_law_range_right" 4350, Vs "_law_range_right" 4351, Vs "/claim/cut.py" 4352, Iz 256, Iz 2, Iz 0, Iz 0, Iz 3, .ref 1142, .bool true, Iz 181, .ref 1143, .none, .none, .none, .ref 1144, Iz 4353, Iz 256, Vs "/claim/cut.py" 4354]
def o1146 (P : Pm) : Obj := Fw (Fo "_law_range_right" "_law_range_right" (astAt 44) 3 .none (Vs "law_nz0215_01" 4255) (.ref 1145))
noncomputable def o1149 (P : Pm) : Obj := ⟨.none, none, (Fo "law" "law" (astAt 45) 0 .none .none .none), #[]⟩
def o1150 (P : Pm) : Obj := Fx "code" #[Vs "law" 4356, Vs "law" 4357, Vs "/claim/cut.py" 4358, Iz 268, Iz 1, Iz 0, Iz 0, Iz 3, .ref 1147, .bool true, Iz 181, .ref 1148, .none, .none, .none, .ref 1149, Iz 4359, Iz 268, Vs "/claim/cut.py" 4360]
def o1151 (P : Pm) : Obj := Fw (Fo "law" "law" (astAt 45) 3 .none (Vs "law_nz0215_01" 4255) (.ref 1150))
def TS0 : Pm → BT := Tn boot_o_0 (Tn boot_o_1 (Tn boot_o_3 (Tn boot_o_7 Tl Tl) Tl) (Tn boot_o_5 (Tn boot_o_9 Tl Tl) Tl)) (Tn boot_o_2 (Tn boot_o_4 (Tn boot_o_8 Tl Tl) Tl) (Tn boot_o_6 (Tn boot_o_10 Tl Tl) Tl))
def Tpre (P : Params) : BT := up (TS0 P) [(11, o11 P), (12, o12 P), (13, o13 P), (14, o14 P)]
def T0 (P : Params) : BT := up (Tpre P) []
def TA : Pm → BT := Tn boot_o_0 (Tn boot_o_1 (Tn o3_1 (Tn boot_o_7 (Tn o15 (Tn o31 (Tn o63 (Tn o12 Tl Tl) Tl) (Tn o95 Tl Tl)) (Tn o47 (Tn o79 Tl Tl) (Tn o11 Tl Tl))) (Tn o11 (Tn o11 (Tn o71 (Tn o135 Tl Tl) Tl) (Tn o103 Tl Tl)) (Tn o11 (Tn o87 Tl Tl) (Tn o119 Tl Tl)))) (Tn o11 (Tn o19 (Tn o35 (Tn o11 (Tn o131 Tl Tl) Tl) (Tn o11 Tl Tl)) (Tn o11 (Tn o12 Tl Tl) (Tn o115 Tl Tl))) (Tn o27 (Tn o11 (Tn o11 (Tn o139 Tl Tl) Tl) (Tn o11 Tl Tl)) (Tn o59 (Tn o91 Tl Tl) (Tn o123 Tl Tl))))) (Tn boot_o_5 (Tn boot_o_9 (Tn o17 (Tn o33 (Tn o65 (Tn o11 Tl Tl) Tl) (Tn o16 Tl Tl)) (Tn o16 (Tn o81 Tl Tl) (Tn o113 Tl Tl))) (Tn o25 (Tn o41 (Tn o73 (Tn o137 Tl Tl) Tl) (Tn o12 Tl Tl)) (Tn o57 (Tn o89 Tl Tl) (Tn o121 Tl Tl)))) (Tn o13 (Tn o21 (Tn o16 (Tn o69 (Tn o11 Tl Tl) Tl) (Tn o101 Tl Tl)) (Tn o53 (Tn o11 Tl Tl) (Tn o117 Tl Tl))) (Tn o29 (Tn o45 (Tn o77 Tl Tl) (Tn o109 Tl Tl)) (Tn o61 (Tn o93 Tl Tl) (Tn o125 Tl Tl)))))) (Tn boot_o_2 (Tn boot_o_4 (Tn boot_o_8 (Tn o16 (Tn o32 (Tn o64 (Tn o128 Tl Tl) Tl) (Tn o11 Tl Tl)) (Tn o36 (Tn o80 Tl Tl) (Tn o12 Tl Tl))) (Tn o12 (Tn o12 (Tn o72 (Tn o11 Tl Tl) Tl) (Tn o11 Tl Tl)) (Tn o12 (Tn o88 Tl Tl) (Tn o120 Tl Tl)))) (Tn o12_1 (Tn o20 (Tn o36 (Tn o16 (Tn o132 Tl Tl) Tl) (Tn o100 Tl Tl)) (Tn o52 (Tn o84 Tl Tl) (Tn o116 Tl Tl))) (Tn o28 (Tn o44 (Tn o12 Tl Tl) (Tn o108 Tl Tl)) (Tn o60 (Tn o92 Tl Tl) (Tn o124 Tl Tl))))) (Tn boot_o_6 (Tn boot_o_10 (Tn o11 (Tn o34 (Tn o66 (Tn o130 Tl Tl) Tl) (Tn o98 Tl Tl)) (Tn o50 (Tn o11 Tl Tl) (Tn o11 Tl Tl))) (Tn o11 (Tn o42 (Tn o74 (Tn o138 Tl Tl) Tl) (Tn o106 Tl Tl)) (Tn o11 (Tn o90 Tl Tl) (Tn o122 Tl Tl)))) (Tn o14 (Tn o22 (Tn o38 (Tn o11 (Tn o12 Tl Tl) Tl) (Tn o102 Tl Tl)) (Tn o54 (Tn o86 Tl Tl) (Tn o118 Tl Tl))) (Tn o30 (Tn o46 (Tn o11 Tl Tl) (Tn o110 Tl Tl)) (Tn o62 (Tn o94 Tl Tl) (Tn o11 Tl Tl))))))
def TK (P : Params) : BT := up (TA P) [(12, o12_2 P), (140, o11 P), (141, o16 P), (142, o142 P), (143, o11 P), (144, o12 P), (145, o145 P), (146, o146 P)]
def TS (P : Params) : BT := up (TK P) []
def TF (P : Params) : BT := up (TS P) [(147, o147 P)]
def TF0 (P : Params) : BT := up (TF P) [(147, o147_1 P), (148, o148 P), (149, o149 P), (150, o150 P), (151, o151 P), (152, o152 P), (153, o153 P), (154, o154 P), (155, o155 P), (156, o156 P), (157, o157 P), (158, o158 P), (159, o159 P), (160, o160 P), (161, o161 P), (162, o162 P), (163, o163 P), (164, o164 P), (165, o165 P), (166, o166 P), (167, o167 P), (168, o11 P), (169, o169 P), (170, o170 P), (171, o171 P), (172, o172 P), (173, o173 P), (174, o167 P), (175, o11 P), (176, o176 P), (177, o177 P), (178, o178 P), (179, o179 P), (180, o180 P), (181, o167 P), (182, o11 P), (183, o183 P), (184, o184 P), (185, o167 P), (186, o11 P), (187, o187 P), (188, o188 P), (189, o167 P), (190, o11 P), (191, o191 P), (192, o192 P), (193, o193 P), (194, o194 P), (195, o195 P), (196, o167 P), (197, o11 P), (198, o198 P), (199, o199 P), (200, o200 P), (201, o201 P), (202, o202 P), (203, o167 P), (204, o11 P), (205, o205 P), (206, o206 P), (207, o207 P), (208, o208 P), (209, o209 P), (210, o167 P), (211, o11 P), (212, o212 P), (213, o213 P), (214, o214 P), (215, o215 P), (216, o11 P), (217, o217 P), (218, o218 P), (219, o219 P), (220, o220 P), (221, o221 P), (222, o222 P), (223, o223 P), (224, o167 P), (225, o11 P), (226, o226 P), (227, o227 P), (228, o228 P), (229, o229 P), (230, o230 P), (231, o167 P), (232, o11 P), (233, o233 P), (234, o234 P), (235, o235 P), (236, o236 P), (237, o237 P), (238, o167 P), (239, o11 P), (240, o240 P), (241, o241 P), (242, o242 P), (243, o243 P), (244, o244 P), (245, o167 P), (246, o11 P), (247, o247 P), (248, o248 P), (249, o167 P), (250, o11 P), (251, o251 P), (252, o252 P), (253, o253 P), (254, o254 P), (255, o255 P), (256, o167 P), (257, o11 P), (258, o258 P), (259, o259 P), (260, o260 P), (261, o261 P), (262, o11 P), (263, o263 P)]
def TF1 : Pm → BT := Tn boot_o_0 (Tn boot_o_1 (Tn o3_1 (Tn boot_o_7 (Tn o15 (Tn o31 (Tn o63 (Tn o12 (Tn o255 Tl Tl) (Tn o383 Tl Tl)) (Tn o191 (Tn o319 Tl Tl) Tl)) (Tn o95 (Tn o159 (Tn o287 Tl Tl) Tl) (Tn o223 (Tn o351 Tl Tl) Tl))) (Tn o47 (Tn o79 (Tn o11 (Tn o11 Tl Tl) Tl) (Tn o207 (Tn o11 Tl Tl) Tl)) (Tn o11 (Tn o11 (Tn o303 Tl Tl) Tl) (Tn o11 (Tn o11 Tl Tl) Tl)))) (Tn o11 (Tn o11 (Tn o71 (Tn o135 (Tn o263 Tl Tl) Tl) (Tn o199 (Tn o327 Tl Tl) Tl)) (Tn o103 (Tn o167 (Tn o164 Tl Tl) Tl) (Tn o167 (Tn o167 Tl Tl) Tl))) (Tn o11 (Tn o87 (Tn o151 (Tn o279 Tl Tl) Tl) (Tn o215 (Tn o343 Tl Tl) Tl)) (Tn o119 (Tn o183 (Tn o311 Tl Tl) Tl) (Tn o247 (Tn o11 Tl Tl) Tl))))) (Tn o11 (Tn o19 (Tn o35 (Tn o11 (Tn o131 (Tn o259 Tl Tl) Tl) (Tn o195 (Tn o167 Tl Tl) Tl)) (Tn o11 (Tn o163 (Tn o291 Tl Tl) Tl) (Tn o227 (Tn o167 Tl Tl) Tl))) (Tn o11 (Tn o12 (Tn o147_1 (Tn o275 Tl Tl) Tl) (Tn o11 (Tn o339 Tl Tl) Tl)) (Tn o115 (Tn o179 (Tn o307 Tl Tl) Tl) (Tn o243 (Tn o11 Tl Tl) Tl)))) (Tn o27 (Tn o11 (Tn o11 (Tn o139 (Tn o267 Tl Tl) Tl) (Tn o167 (Tn o11 Tl Tl) Tl)) (Tn o11 (Tn o171 (Tn o11 Tl Tl) Tl) (Tn o235 (Tn o363 Tl Tl) Tl))) (Tn o59 (Tn o91 (Tn o155 (Tn o283 Tl Tl) Tl) (Tn o219 (Tn o11 Tl Tl) Tl)) (Tn o123 (Tn o187 (Tn o315 Tl Tl) Tl) (Tn o251 (Tn o11 Tl Tl) Tl)))))) (Tn boot_o_5 (Tn boot_o_9 (Tn o17 (Tn o33 (Tn o65 (Tn o11 (Tn o11 Tl Tl) (Tn o385 Tl Tl)) (Tn o193 (Tn o321 Tl Tl) Tl)) (Tn o16 (Tn o161 (Tn o289 Tl Tl) Tl) (Tn o11 (Tn o353 Tl Tl) Tl))) (Tn o16 (Tn o81 (Tn o145 (Tn o273 Tl Tl) Tl) (Tn o209 (Tn o337 Tl Tl) Tl)) (Tn o113 (Tn o177 (Tn o167 Tl Tl) Tl) (Tn o241 (Tn o369 Tl Tl) Tl)))) (Tn o25 (Tn o41 (Tn o73 (Tn o137 (Tn o265 Tl Tl) Tl) (Tn o201 (Tn o329 Tl Tl) Tl)) (Tn o12 (Tn o169 (Tn o297 Tl Tl) Tl) (Tn o233 (Tn o361 Tl Tl) Tl))) (Tn o57 (Tn o89 (Tn o153 (Tn o281 Tl Tl) Tl) (Tn o217 (Tn o345 Tl Tl) Tl)) (Tn o121 (Tn o167 (Tn o313 Tl Tl) Tl) (Tn o167 (Tn o377 Tl Tl) Tl))))) (Tn o13 (Tn o21 (Tn o16 (Tn o69 (Tn o11 (Tn o261 Tl Tl) Tl) (Tn o11 (Tn o325 Tl Tl) Tl)) (Tn o101 (Tn o165 (Tn o293 Tl Tl) Tl) (Tn o229 (Tn o357 Tl Tl) Tl))) (Tn o53 (Tn o11 (Tn o149 (Tn o167 Tl Tl) Tl) (Tn o213 (Tn o167 Tl Tl) Tl)) (Tn o117 (Tn o167 (Tn o167 Tl Tl) Tl) (Tn o167 (Tn o373 Tl Tl) Tl)))) (Tn o29 (Tn o45 (Tn o77 (Tn o16 (Tn o269 Tl Tl) Tl) (Tn o205 (Tn o333 Tl Tl) Tl)) (Tn o109 (Tn o173 (Tn o301 Tl Tl) Tl) (Tn o237 (Tn o365 Tl Tl) Tl))) (Tn o61 (Tn o93 (Tn o157 (Tn o11 Tl Tl) Tl) (Tn o221 (Tn o349 Tl Tl) Tl)) (Tn o125 (Tn o167 (Tn o11 Tl Tl) Tl) (Tn o253 (Tn o381 Tl Tl) Tl))))))) (Tn boot_o_2 (Tn boot_o_4 (Tn boot_o_8 (Tn o16 (Tn o32 (Tn o64 (Tn o128 (Tn o167 Tl Tl) (Tn o11 Tl Tl)) (Tn o192 (Tn o320 Tl Tl) Tl)) (Tn o11 (Tn o160_1 (Tn o288 Tl Tl) Tl) (Tn o167 (Tn o221 Tl Tl) Tl))) (Tn o36 (Tn o80 (Tn o12 (Tn o272 Tl Tl) Tl) (Tn o208 (Tn o336 Tl Tl) Tl)) (Tn o12 (Tn o176 (Tn o304 Tl Tl) Tl) (Tn o240 (Tn o368 Tl Tl) Tl)))) (Tn o12 (Tn o12 (Tn o72 (Tn o11 (Tn o264 Tl Tl) Tl) (Tn o200 (Tn o328 Tl Tl) Tl)) (Tn o11 (Tn o11 (Tn o296 Tl Tl) Tl) (Tn o11 (Tn o11 Tl Tl) Tl))) (Tn o12 (Tn o88 (Tn o152 (Tn o280 Tl Tl) Tl) (Tn o11 (Tn o344 Tl Tl) Tl)) (Tn o120 (Tn o184 (Tn o312 Tl Tl) Tl) (Tn o248 (Tn o376 Tl Tl) Tl))))) (Tn o12_2 (Tn o20 (Tn o36 (Tn o16 (Tn o132 (Tn o260 Tl Tl) Tl) (Tn o167 (Tn o11 Tl Tl) Tl)) (Tn o100 (Tn o164 (Tn o292 Tl Tl) Tl) (Tn o228 (Tn o11 Tl Tl) Tl))) (Tn o52 (Tn o84 (Tn o148 (Tn o276 Tl Tl) Tl) (Tn o212 (Tn o340 Tl Tl) Tl)) (Tn o116 (Tn o180 (Tn o308 Tl Tl) Tl) (Tn o244 (Tn o372 Tl Tl) Tl)))) (Tn o28 (Tn o44 (Tn o12 (Tn o11 (Tn o268 Tl Tl) Tl) (Tn o11 (Tn o332 Tl Tl) Tl)) (Tn o108 (Tn o172 (Tn o300 Tl Tl) Tl) (Tn o236 (Tn o364 Tl Tl) Tl))) (Tn o60 (Tn o92 (Tn o156 (Tn o167 Tl Tl) Tl) (Tn o220 (Tn o348 Tl Tl) Tl)) (Tn o124 (Tn o188 (Tn o167 Tl Tl) Tl) (Tn o252 (Tn o380 Tl Tl) Tl)))))) (Tn boot_o_6 (Tn boot_o_10 (Tn o11 (Tn o34 (Tn o66 (Tn o130 (Tn o258 Tl Tl) Tl) (Tn o194 (Tn o322 Tl Tl) Tl)) (Tn o98 (Tn o162 (Tn o11 Tl Tl) Tl) (Tn o226 (Tn o354 Tl Tl) Tl))) (Tn o50 (Tn o11 (Tn o146 (Tn o274 Tl Tl) Tl) (Tn o167 (Tn o338 Tl Tl) Tl)) (Tn o11 (Tn o178 (Tn o11 Tl Tl) Tl) (Tn o242 (Tn o167 Tl Tl) Tl)))) (Tn o11 (Tn o42 (Tn o74 (Tn o138 (Tn o266 Tl Tl) Tl) (Tn o202 (Tn o167 Tl Tl) Tl)) (Tn o106 (Tn o170 (Tn o167 Tl Tl) Tl) (Tn o234 (Tn o362 Tl Tl) Tl))) (Tn o11 (Tn o90 (Tn o154 (Tn o282 Tl Tl) Tl) (Tn o218 (Tn o346 Tl Tl) Tl)) (Tn o122 (Tn o11 (Tn o314 Tl Tl) Tl) (Tn o11 (Tn o167 Tl Tl) Tl))))) (Tn o14 (Tn o22 (Tn o38 (Tn o11 (Tn o12 (Tn o11 Tl Tl) Tl) (Tn o198 (Tn o326 Tl Tl) Tl)) (Tn o102 (Tn o166 (Tn o294 Tl Tl) Tl) (Tn o230 (Tn o358 Tl Tl) Tl))) (Tn o54 (Tn o86 (Tn o150 (Tn o11 Tl Tl) Tl) (Tn o214 (Tn o11 Tl Tl) Tl)) (Tn o118 (Tn o11 (Tn o11 Tl Tl) Tl) (Tn o11 (Tn o167 Tl Tl) Tl)))) (Tn o30 (Tn o46 (Tn o11 (Tn o142 (Tn o167 Tl Tl) Tl) (Tn o206 (Tn o167 Tl Tl) Tl)) (Tn o110 (Tn o167 (Tn o302 Tl Tl) Tl) (Tn o167 (Tn o167 Tl Tl) Tl))) (Tn o62 (Tn o94 (Tn o158 (Tn o286 Tl Tl) Tl) (Tn o222 (Tn o350 Tl Tl) Tl)) (Tn o11 (Tn o11 (Tn o318 Tl Tl) Tl) (Tn o254 (Tn o382 Tl Tl) Tl)))))))
def TF2 (P : Params) : BT := up (TF1 P) [(160, o160_2 P), (386, o386 P), (387, o387 P), (388, o388 P), (389, o221 P), (390, o390 P), (391, o391 P), (392, o167 P), (393, o11 P), (394, o394 P), (395, o395 P), (396, o167 P), (397, o11 P), (398, o398 P), (399, o399 P), (400, o167 P), (401, o11 P), (402, o402 P), (403, o403 P), (404, o167 P), (405, o11 P), (406, o406 P), (407, o407 P), (408, o167 P), (409, o11 P), (410, o410 P), (411, o411 P), (412, o167 P), (413, o11 P), (414, o414 P), (415, o415 P), (416, o416 P), (417, o417 P), (418, o11 P), (419, o419 P), (420, o420 P), (421, o421 P), (422, o422 P), (423, o164 P), (424, o424 P), (425, o425 P), (426, o167 P), (427, o11 P), (428, o428 P), (429, o429 P), (430, o430 P), (431, o431 P), (432, o432 P), (433, o167 P), (434, o11 P), (435, o435 P), (436, o436 P), (437, o437 P), (438, o438 P), (439, o439 P), (440, o167 P), (441, o11 P), (442, o442 P), (443, o443 P), (444, o444 P), (445, o445 P), (446, o446 P), (447, o167 P), (448, o11 P), (449, o449 P), (450, o450 P), (451, o451 P), (452, o452 P), (453, o453 P), (454, o167 P), (455, o11 P), (456, o456 P), (457, o457 P), (458, o458 P), (459, o459 P), (460, o460 P), (461, o167 P), (462, o11 P), (463, o463 P), (464, o464 P), (465, o465 P), (466, o466 P), (467, o467 P), (468, o167 P), (469, o11 P), (470, o470 P), (471, o471 P), (472, o472 P), (473, o473 P), (474, o474 P), (475, o167 P), (476, o11 P), (477, o477 P), (478, o478 P), (479, o479 P), (480, o480 P), (481, o11 P), (482, o482 P), (483, o483 P), (484, o484 P), (485, o485 P), (486, o221 P), (487, o487 P), (488, o488 P), (489, o167 P), (490, o11 P), (491, o491 P), (492, o492 P), (493, o493 P), (494, o494 P), (495, o495 P), (496, o167 P), (497, o11 P), (498, o498 P), (499, o499 P), (500, o167 P), (501, o11 P), (502, o502 P), (503, o503 P), (504, o167 P), (505, o11 P), (506, o506 P), (507, o507 P), (508, o167 P), (509, o11 P), (510, o510 P), (511, o511 P), (512, o167 P), (513, o11 P), (514, o514 P), (515, o515 P), (516, o516 P), (517, o517 P), (518, o11 P), (519, o519 P)]
def TF3 : Pm → BT := Tn boot_o_0 (Tn boot_o_1 (Tn o3_1 (Tn boot_o_7 (Tn o15 (Tn o31 (Tn o63 (Tn o12 (Tn o255 (Tn o511 Tl Tl) Tl) (Tn o383 Tl Tl)) (Tn o191 (Tn o319 (Tn o167 Tl Tl) Tl) (Tn o167 Tl Tl))) (Tn o95 (Tn o159 (Tn o287 (Tn o543 Tl Tl) Tl) (Tn o415 Tl Tl)) (Tn o223 (Tn o351 (Tn o607 Tl Tl) Tl) (Tn o479 Tl Tl)))) (Tn o47 (Tn o79 (Tn o11 (Tn o11 (Tn o11 Tl Tl) Tl) (Tn o399 Tl Tl)) (Tn o207 (Tn o11 (Tn o591 Tl Tl) Tl) (Tn o463 Tl Tl))) (Tn o11 (Tn o11 (Tn o303 (Tn o559 Tl Tl) Tl) (Tn o431 Tl Tl)) (Tn o11 (Tn o11 (Tn o623 Tl Tl) Tl) (Tn o495 Tl Tl))))) (Tn o11 (Tn o11 (Tn o71 (Tn o135 (Tn o263 (Tn o519 Tl Tl) Tl) (Tn o391 Tl Tl)) (Tn o199 (Tn o327 (Tn o583 Tl Tl) Tl) (Tn o11 Tl Tl))) (Tn o103 (Tn o167 (Tn o164 (Tn o551 Tl Tl) Tl) (Tn o164 Tl Tl)) (Tn o167 (Tn o167 (Tn o11 Tl Tl) Tl) (Tn o487 Tl Tl)))) (Tn o11 (Tn o87 (Tn o151 (Tn o279 (Tn o535 Tl Tl) Tl) (Tn o407 Tl Tl)) (Tn o215 (Tn o343 (Tn o599 Tl Tl) Tl) (Tn o471 Tl Tl))) (Tn o119 (Tn o183 (Tn o311 (Tn o567 Tl Tl) Tl) (Tn o439 Tl Tl)) (Tn o247 (Tn o11 (Tn o631 Tl Tl) Tl) (Tn o503 Tl Tl)))))) (Tn o11 (Tn o19 (Tn o35 (Tn o11 (Tn o131 (Tn o259 (Tn o515 Tl Tl) Tl) (Tn o387 Tl Tl)) (Tn o195 (Tn o167 (Tn o579 Tl Tl) Tl) (Tn o451 Tl Tl))) (Tn o11 (Tn o163 (Tn o291 (Tn o167 Tl Tl) Tl) (Tn o419 Tl Tl)) (Tn o227 (Tn o167 (Tn o11 Tl Tl) Tl) (Tn o483 Tl Tl)))) (Tn o11 (Tn o12 (Tn o147_1 (Tn o275 (Tn o531 Tl Tl) Tl) (Tn o403 Tl Tl)) (Tn o11 (Tn o339 (Tn o595 Tl Tl) Tl) (Tn o467 Tl Tl))) (Tn o115 (Tn o179 (Tn o307 (Tn o563 Tl Tl) Tl) (Tn o435 Tl Tl)) (Tn o243 (Tn o11 (Tn o627 Tl Tl) Tl) (Tn o499 Tl Tl))))) (Tn o27 (Tn o11 (Tn o11 (Tn o139 (Tn o267 (Tn o164 Tl Tl) Tl) (Tn o395 Tl Tl)) (Tn o167 (Tn o11 (Tn o587 Tl Tl) Tl) (Tn o459 Tl Tl))) (Tn o11 (Tn o171 (Tn o11 (Tn o11 Tl Tl) Tl) (Tn o11 Tl Tl)) (Tn o235 (Tn o363 (Tn o619 Tl Tl) Tl) (Tn o491 Tl Tl)))) (Tn o59 (Tn o91 (Tn o155 (Tn o283 (Tn o539 Tl Tl) Tl) (Tn o411 Tl Tl)) (Tn o219 (Tn o11 (Tn o603 Tl Tl) Tl) (Tn o167 Tl Tl))) (Tn o123 (Tn o187 (Tn o315 (Tn o571 Tl Tl) Tl) (Tn o443 Tl Tl)) (Tn o251 (Tn o11 (Tn o635 Tl Tl) Tl) (Tn o507 Tl Tl))))))) (Tn boot_o_5 (Tn boot_o_9 (Tn o17 (Tn o33 (Tn o65 (Tn o11 (Tn o11 (Tn o11 Tl Tl) Tl) (Tn o385 Tl Tl)) (Tn o193 (Tn o321 (Tn o577 Tl Tl) Tl) (Tn o449 Tl Tl))) (Tn o16 (Tn o161 (Tn o289 (Tn o545 Tl Tl) Tl) (Tn o417 Tl Tl)) (Tn o11 (Tn o353 (Tn o609 Tl Tl) Tl) (Tn o11 Tl Tl)))) (Tn o16 (Tn o81 (Tn o145 (Tn o273 (Tn o529 Tl Tl) Tl) (Tn o11 Tl Tl)) (Tn o209 (Tn o337 (Tn o593 Tl Tl) Tl) (Tn o465 Tl Tl))) (Tn o113 (Tn o177 (Tn o167 (Tn o167 Tl Tl) Tl) (Tn o167 Tl Tl)) (Tn o241 (Tn o369 (Tn o625 Tl Tl) Tl) (Tn o11 Tl Tl))))) (Tn o25 (Tn o41 (Tn o73 (Tn o137 (Tn o265 (Tn o521 Tl Tl) Tl) (Tn o11 Tl Tl)) (Tn o201 (Tn o329 (Tn o585 Tl Tl) Tl) (Tn o457 Tl Tl))) (Tn o12 (Tn o169 (Tn o297 (Tn o553 Tl Tl) Tl) (Tn o425 Tl Tl)) (Tn o233 (Tn o361 (Tn o617 Tl Tl) Tl) (Tn o167 Tl Tl)))) (Tn o57 (Tn o89 (Tn o153 (Tn o281 (Tn o537 Tl Tl) Tl) (Tn o11 Tl Tl)) (Tn o217 (Tn o345 (Tn o601 Tl Tl) Tl) (Tn o473 Tl Tl))) (Tn o121 (Tn o167 (Tn o313 (Tn o11 Tl Tl) Tl) (Tn o11 Tl Tl)) (Tn o167 (Tn o377 (Tn o633 Tl Tl) Tl) (Tn o11 Tl Tl)))))) (Tn o13 (Tn o21 (Tn o16 (Tn o69 (Tn o11 (Tn o261 (Tn o517 Tl Tl) Tl) (Tn o221 Tl Tl)) (Tn o11 (Tn o325 (Tn o11 Tl Tl) Tl) (Tn o453 Tl Tl))) (Tn o101 (Tn o165 (Tn o293 (Tn o549 Tl Tl) Tl) (Tn o421 Tl Tl)) (Tn o229 (Tn o357 (Tn o613 Tl Tl) Tl) (Tn o485 Tl Tl)))) (Tn o53 (Tn o11 (Tn o149 (Tn o167 (Tn o167 Tl Tl) Tl) (Tn o11 Tl Tl)) (Tn o213 (Tn o167 (Tn o11 Tl Tl) Tl) (Tn o11 Tl Tl))) (Tn o117 (Tn o167 (Tn o167 (Tn o565 Tl Tl) Tl) (Tn o437 Tl Tl)) (Tn o167 (Tn o373 (Tn o11 Tl Tl) Tl) (Tn o11 Tl Tl))))) (Tn o29 (Tn o45 (Tn o77 (Tn o16 (Tn o269 (Tn o525 Tl Tl) Tl) (Tn o11 Tl Tl)) (Tn o205 (Tn o333 (Tn o167 Tl Tl) Tl) (Tn o167 Tl Tl))) (Tn o109 (Tn o173 (Tn o301 (Tn o557 Tl Tl) Tl) (Tn o429 Tl Tl)) (Tn o237 (Tn o365 (Tn o167 Tl Tl) Tl) (Tn o493 Tl Tl)))) (Tn o61 (Tn o93 (Tn o157 (Tn o11 (Tn o11 Tl Tl) Tl) (Tn o11 Tl Tl)) (Tn o221 (Tn o349 (Tn o605 Tl Tl) Tl) (Tn o477 Tl Tl))) (Tn o125 (Tn o167 (Tn o11 (Tn o573 Tl Tl) Tl) (Tn o445 Tl Tl)) (Tn o253 (Tn o381 Tl Tl) (Tn o11 Tl Tl)))))))) (Tn boot_o_2 (Tn boot_o_4 (Tn boot_o_8 (Tn o16 (Tn o32 (Tn o64 (Tn o128 (Tn o167 (Tn o167 Tl Tl) Tl) (Tn o11 Tl Tl)) (Tn o192 (Tn o320 (Tn o11 Tl Tl) Tl) (Tn o11 Tl Tl))) (Tn o11 (Tn o160_3 (Tn o288 (Tn o544 Tl Tl) Tl) (Tn o416 Tl Tl)) (Tn o167 (Tn o221 (Tn o608 Tl Tl) Tl) (Tn o480 Tl Tl)))) (Tn o36 (Tn o80 (Tn o12 (Tn o272 (Tn o528 Tl Tl) Tl) (Tn o167 Tl Tl)) (Tn o208 (Tn o336 (Tn o592 Tl Tl) Tl) (Tn o464 Tl Tl))) (Tn o12 (Tn o176 (Tn o304 (Tn o560 Tl Tl) Tl) (Tn o432 Tl Tl)) (Tn o240 (Tn o368 (Tn o624 Tl Tl) Tl) (Tn o167 Tl Tl))))) (Tn o12 (Tn o12 (Tn o72 (Tn o11 (Tn o264 (Tn o520 Tl Tl) Tl) (Tn o167 Tl Tl)) (Tn o200 (Tn o328 (Tn o584 Tl Tl) Tl) (Tn o456 Tl Tl))) (Tn o11 (Tn o11 (Tn o296 (Tn o552 Tl Tl) Tl) (Tn o424 Tl Tl)) (Tn o11 (Tn o11 (Tn o616 Tl Tl) Tl) (Tn o488 Tl Tl)))) (Tn o12 (Tn o88 (Tn o152 (Tn o280 (Tn o536 Tl Tl) Tl) (Tn o167 Tl Tl)) (Tn o11 (Tn o344 (Tn o600 Tl Tl) Tl) (Tn o472 Tl Tl))) (Tn o120 (Tn o184 (Tn o312 (Tn o167 Tl Tl) Tl) (Tn o167 Tl Tl)) (Tn o248 (Tn o376 (Tn o632 Tl Tl) Tl) (Tn o167 Tl Tl)))))) (Tn o12_2 (Tn o20 (Tn o36 (Tn o16 (Tn o132 (Tn o260 (Tn o516 Tl Tl) Tl) (Tn o388 Tl Tl)) (Tn o167 (Tn o11 (Tn o580 Tl Tl) Tl) (Tn o452 Tl Tl))) (Tn o100 (Tn o164 (Tn o292 (Tn o11 Tl Tl) Tl) (Tn o420 Tl Tl)) (Tn o228 (Tn o11 (Tn o612 Tl Tl) Tl) (Tn o484 Tl Tl)))) (Tn o52 (Tn o84 (Tn o148 (Tn o276 (Tn o532 Tl Tl) Tl) (Tn o167 Tl Tl)) (Tn o212 (Tn o340 (Tn o167 Tl Tl) Tl) (Tn o167 Tl Tl))) (Tn o116 (Tn o180 (Tn o308 (Tn o564 Tl Tl) Tl) (Tn o436 Tl Tl)) (Tn o244 (Tn o372 (Tn o167 Tl Tl) Tl) (Tn o167 Tl Tl))))) (Tn o28 (Tn o44 (Tn o12 (Tn o11 (Tn o268 (Tn o524 Tl Tl) Tl) (Tn o167 Tl Tl)) (Tn o11 (Tn o332 (Tn o588 Tl Tl) Tl) (Tn o460 Tl Tl))) (Tn o108 (Tn o172 (Tn o300 (Tn o556 Tl Tl) Tl) (Tn o428 Tl Tl)) (Tn o236 (Tn o364 (Tn o620 Tl Tl) Tl) (Tn o492 Tl Tl)))) (Tn o60 (Tn o92 (Tn o156 (Tn o167 (Tn o167 Tl Tl) Tl) (Tn o167 Tl Tl)) (Tn o220 (Tn o348 (Tn o604 Tl Tl) Tl) (Tn o11 Tl Tl))) (Tn o124 (Tn o188 (Tn o167 (Tn o572 Tl Tl) Tl) (Tn o444 Tl Tl)) (Tn o252 (Tn o380 Tl Tl) (Tn o167 Tl Tl))))))) (Tn boot_o_6 (Tn boot_o_10 (Tn o11 (Tn o34 (Tn o66 (Tn o130 (Tn o258 (Tn o514 Tl Tl) Tl) (Tn o386 Tl Tl)) (Tn o194 (Tn o322 (Tn o578 Tl Tl) Tl) (Tn o450 Tl Tl))) (Tn o98 (Tn o162 (Tn o11 (Tn o546 Tl Tl) Tl) (Tn o11 Tl Tl)) (Tn o226 (Tn o354 (Tn o167 Tl Tl) Tl) (Tn o482 Tl Tl)))) (Tn o50 (Tn o11 (Tn o146 (Tn o274 (Tn o530 Tl Tl) Tl) (Tn o402 Tl Tl)) (Tn o167 (Tn o338 (Tn o594 Tl Tl) Tl) (Tn o466 Tl Tl))) (Tn o11 (Tn o178 (Tn o11 (Tn o11 Tl Tl) Tl) (Tn o11 Tl Tl)) (Tn o242 (Tn o167 (Tn o626 Tl Tl) Tl) (Tn o498 Tl Tl))))) (Tn o11 (Tn o42 (Tn o74 (Tn o138 (Tn o266 (Tn o522 Tl Tl) Tl) (Tn o394 Tl Tl)) (Tn o202 (Tn o167 (Tn o586 Tl Tl) Tl) (Tn o458 Tl Tl))) (Tn o106 (Tn o170 (Tn o167 (Tn o167 Tl Tl) Tl) (Tn o167 Tl Tl)) (Tn o234 (Tn o362 (Tn o618 Tl Tl) Tl) (Tn o11 Tl Tl)))) (Tn o11 (Tn o90 (Tn o154 (Tn o282 (Tn o538 Tl Tl) Tl) (Tn o410 Tl Tl)) (Tn o218 (Tn o346 (Tn o11 Tl Tl) Tl) (Tn o474 Tl Tl))) (Tn o122 (Tn o11 (Tn o314 (Tn o570 Tl Tl) Tl) (Tn o442 Tl Tl)) (Tn o11 (Tn o167 (Tn o11 Tl Tl) Tl) (Tn o506 Tl Tl)))))) (Tn o14 (Tn o22 (Tn o38 (Tn o11 (Tn o12 (Tn o11 (Tn o11 Tl Tl) Tl) (Tn o390 Tl Tl)) (Tn o198 (Tn o326 (Tn o582 Tl Tl) Tl) (Tn o167 Tl Tl))) (Tn o102 (Tn o166 (Tn o294 (Tn o550 Tl Tl) Tl) (Tn o422 Tl Tl)) (Tn o230 (Tn o358 (Tn o167 Tl Tl) Tl) (Tn o221 Tl Tl)))) (Tn o54 (Tn o86 (Tn o150 (Tn o11 (Tn o11 Tl Tl) Tl) (Tn o406 Tl Tl)) (Tn o214 (Tn o11 (Tn o598 Tl Tl) Tl) (Tn o470 Tl Tl))) (Tn o118 (Tn o11 (Tn o11 (Tn o566 Tl Tl) Tl) (Tn o438 Tl Tl)) (Tn o11 (Tn o167 (Tn o630 Tl Tl) Tl) (Tn o502 Tl Tl))))) (Tn o30 (Tn o46 (Tn o11 (Tn o142 (Tn o167 (Tn o167 Tl Tl) Tl) (Tn o398 Tl Tl)) (Tn o206 (Tn o167 (Tn o11 Tl Tl) Tl) (Tn o11 Tl Tl))) (Tn o110 (Tn o167 (Tn o302 (Tn o558 Tl Tl) Tl) (Tn o430 Tl Tl)) (Tn o167 (Tn o167 (Tn o11 Tl Tl) Tl) (Tn o494 Tl Tl)))) (Tn o62 (Tn o94 (Tn o158 (Tn o286 (Tn o542 Tl Tl) Tl) (Tn o414 Tl Tl)) (Tn o222 (Tn o350 (Tn o606 Tl Tl) Tl) (Tn o478 Tl Tl))) (Tn o11 (Tn o11 (Tn o318 (Tn o574 Tl Tl) Tl) (Tn o446 Tl Tl)) (Tn o254 (Tn o382 Tl Tl) (Tn o510 Tl Tl))))))))
def TF4 (P : Params) : BT := up (TF3 P) [(147, o147_2 P), (160, o160_4 P), (636, o636 P), (637, o637 P), (638, o638 P), (639, o164 P), (640, o640 P), (641, o641 P), (642, o167 P), (643, o11 P), (644, o644 P), (645, o645 P), (646, o167 P), (647, o11 P), (648, o648 P), (649, o649 P), (650, o167 P), (651, o11 P), (652, o652 P), (653, o653 P), (654, o167 P), (655, o11 P), (656, o656 P), (657, o657 P), (658, o167 P), (659, o11 P), (660, o660 P), (661, o661 P), (662, o167 P), (663, o11 P), (664, o664 P), (665, o665 P), (666, o666 P), (667, o667 P), (668, o668 P), (669, o167 P), (670, o11 P), (671, o671 P), (672, o672 P), (673, o673 P), (674, o674 P), (675, o675 P), (676, o167 P), (677, o11 P), (678, o678 P), (679, o679 P), (680, o680 P), (681, o681 P), (682, o11 P), (683, o683 P), (684, o684 P), (685, o685 P), (686, o686 P), (687, o687 P), (688, o688 P), (689, o689 P), (690, o690 P), (691, o691 P), (692, o692 P), (693, o693 P), (694, o167 P), (695, o11 P), (696, o696 P), (697, o697 P), (698, o698 P), (699, o699 P), (700, o167 P), (701, o11 P), (702, o702 P), (703, o703 P), (704, o704 P), (705, o705 P), (706, o167 P), (707, o11 P), (708, o708 P), (709, o709 P), (710, o710 P), (711, o711 P), (712, o167 P), (713, o11 P), (714, o714 P), (715, o715 P), (716, o716 P), (717, o717 P), (718, o167 P), (719, o11 P), (720, o720 P), (721, o721 P), (722, o722 P), (723, o723 P), (724, o11 P), (725, o725 P)]
def TF5 (P : Params) : BT := up (TF4 P) []
def TS2 : Pm → BT := Tn boot_o_0 (Tn boot_o_1 (Tn o3_1 (Tn boot_o_7 (Tn o15 (Tn o31 (Tn o63 (Tn o12 (Tn o255 (Tn o511 Tl Tl) Tl) (Tn o383 (Tn o164 Tl Tl) Tl)) (Tn o191 (Tn o319 (Tn o167 Tl Tl) Tl) (Tn o167 (Tn o703 Tl Tl) Tl))) (Tn o95 (Tn o159 (Tn o287 (Tn o543 Tl Tl) Tl) (Tn o415 (Tn o671 Tl Tl) Tl)) (Tn o223 (Tn o351 (Tn o607 Tl Tl) Tl) (Tn o479 Tl Tl)))) (Tn o47 (Tn o79 (Tn o11 (Tn o11 (Tn o11 Tl Tl) Tl) (Tn o399 (Tn o11 Tl Tl) Tl)) (Tn o207 (Tn o11 (Tn o591 Tl Tl) Tl) (Tn o463 (Tn o11 Tl Tl) Tl))) (Tn o11 (Tn o11 (Tn o303 (Tn o559 Tl Tl) Tl) (Tn o431 (Tn o687 Tl Tl) Tl)) (Tn o11 (Tn o11 (Tn o623 Tl Tl) Tl) (Tn o495 Tl Tl))))) (Tn o11 (Tn o11 (Tn o71 (Tn o135 (Tn o263 (Tn o519 Tl Tl) Tl) (Tn o391 (Tn o11 Tl Tl) Tl)) (Tn o199 (Tn o327 (Tn o583 Tl Tl) Tl) (Tn o11 (Tn o711 Tl Tl) Tl))) (Tn o103 (Tn o167 (Tn o164 (Tn o551 Tl Tl) Tl) (Tn o164 (Tn o679 Tl Tl) Tl)) (Tn o167 (Tn o167 (Tn o11 Tl Tl) Tl) (Tn o487 Tl Tl)))) (Tn o11 (Tn o87 (Tn o151 (Tn o279 (Tn o535 Tl Tl) Tl) (Tn o407 (Tn o11 Tl Tl) Tl)) (Tn o215 (Tn o343 (Tn o599 Tl Tl) Tl) (Tn o471 Tl Tl))) (Tn o119 (Tn o183 (Tn o311 (Tn o567 Tl Tl) Tl) (Tn o439 (Tn o11 Tl Tl) Tl)) (Tn o247 (Tn o11 (Tn o631 Tl Tl) Tl) (Tn o503 Tl Tl)))))) (Tn o11 (Tn o19 (Tn o35 (Tn o11 (Tn o131 (Tn o259 (Tn o515 Tl Tl) Tl) (Tn o387 (Tn o11 Tl Tl) Tl)) (Tn o195 (Tn o167 (Tn o579 Tl Tl) Tl) (Tn o451 (Tn o11 Tl Tl) Tl))) (Tn o11 (Tn o163 (Tn o291 (Tn o167 Tl Tl) Tl) (Tn o419 (Tn o675 Tl Tl) Tl)) (Tn o227 (Tn o167 (Tn o11 Tl Tl) Tl) (Tn o483 Tl Tl)))) (Tn o11 (Tn o12 (Tn o147_2 (Tn o275 (Tn o531 Tl Tl) Tl) (Tn o403 (Tn o11 Tl Tl) Tl)) (Tn o11 (Tn o339 (Tn o595 Tl Tl) Tl) (Tn o467 (Tn o723 Tl Tl) Tl))) (Tn o115 (Tn o179 (Tn o307 (Tn o563 Tl Tl) Tl) (Tn o435 (Tn o691 Tl Tl) Tl)) (Tn o243 (Tn o11 (Tn o627 Tl Tl) Tl) (Tn o499 Tl Tl))))) (Tn o27 (Tn o11 (Tn o11 (Tn o139 (Tn o267 (Tn o164 Tl Tl) Tl) (Tn o395 (Tn o11 Tl Tl) Tl)) (Tn o167 (Tn o11 (Tn o587 Tl Tl) Tl) (Tn o459 (Tn o715 Tl Tl) Tl))) (Tn o11 (Tn o171 (Tn o11 (Tn o11 Tl Tl) Tl) (Tn o11 (Tn o683 Tl Tl) Tl)) (Tn o235 (Tn o363 (Tn o619 Tl Tl) Tl) (Tn o491 Tl Tl)))) (Tn o59 (Tn o91 (Tn o155 (Tn o283 (Tn o539 Tl Tl) Tl) (Tn o411 (Tn o667 Tl Tl) Tl)) (Tn o219 (Tn o11 (Tn o603 Tl Tl) Tl) (Tn o167 Tl Tl))) (Tn o123 (Tn o187 (Tn o315 (Tn o571 Tl Tl) Tl) (Tn o443 (Tn o699 Tl Tl) Tl)) (Tn o251 (Tn o11 (Tn o635 Tl Tl) Tl) (Tn o507 Tl Tl))))))) (Tn boot_o_5 (Tn boot_o_9 (Tn o17 (Tn o33 (Tn o65 (Tn o11 (Tn o11 (Tn o11 Tl Tl) Tl) (Tn o385 (Tn o641 Tl Tl) Tl)) (Tn o193 (Tn o321 (Tn o577 Tl Tl) Tl) (Tn o449 (Tn o705 Tl Tl) Tl))) (Tn o16 (Tn o161 (Tn o289 (Tn o545 Tl Tl) Tl) (Tn o417 (Tn o673 Tl Tl) Tl)) (Tn o11 (Tn o353 (Tn o609 Tl Tl) Tl) (Tn o11 Tl Tl)))) (Tn o16 (Tn o81 (Tn o145 (Tn o273 (Tn o529 Tl Tl) Tl) (Tn o11 (Tn o657 Tl Tl) Tl)) (Tn o209 (Tn o337 (Tn o593 Tl Tl) Tl) (Tn o465 (Tn o721 Tl Tl) Tl))) (Tn o113 (Tn o177 (Tn o167 (Tn o167 Tl Tl) Tl) (Tn o167 (Tn o689 Tl Tl) Tl)) (Tn o241 (Tn o369 (Tn o625 Tl Tl) Tl) (Tn o11 Tl Tl))))) (Tn o25 (Tn o41 (Tn o73 (Tn o137 (Tn o265 (Tn o521 Tl Tl) Tl) (Tn o11 (Tn o649 Tl Tl) Tl)) (Tn o201 (Tn o329 (Tn o585 Tl Tl) Tl) (Tn o457 (Tn o11 Tl Tl) Tl))) (Tn o12 (Tn o169 (Tn o297 (Tn o553 Tl Tl) Tl) (Tn o425 (Tn o681 Tl Tl) Tl)) (Tn o233 (Tn o361 (Tn o617 Tl Tl) Tl) (Tn o167 Tl Tl)))) (Tn o57 (Tn o89 (Tn o153 (Tn o281 (Tn o537 Tl Tl) Tl) (Tn o11 (Tn o665 Tl Tl) Tl)) (Tn o217 (Tn o345 (Tn o601 Tl Tl) Tl) (Tn o473 Tl Tl))) (Tn o121 (Tn o167 (Tn o313 (Tn o11 Tl Tl) Tl) (Tn o11 (Tn o697 Tl Tl) Tl)) (Tn o167 (Tn o377 (Tn o633 Tl Tl) Tl) (Tn o11 Tl Tl)))))) (Tn o13 (Tn o21 (Tn o16 (Tn o69 (Tn o11 (Tn o261 (Tn o517 Tl Tl) Tl) (Tn o221 (Tn o645 Tl Tl) Tl)) (Tn o11 (Tn o325 (Tn o11 Tl Tl) Tl) (Tn o453 (Tn o709 Tl Tl) Tl))) (Tn o101 (Tn o165 (Tn o293 (Tn o549 Tl Tl) Tl) (Tn o421 (Tn o11 Tl Tl) Tl)) (Tn o229 (Tn o357 (Tn o613 Tl Tl) Tl) (Tn o485 Tl Tl)))) (Tn o53 (Tn o11 (Tn o149 (Tn o167 (Tn o167 Tl Tl) Tl) (Tn o11 (Tn o661 Tl Tl) Tl)) (Tn o213 (Tn o167 (Tn o11 Tl Tl) Tl) (Tn o11 (Tn o725 Tl Tl) Tl))) (Tn o117 (Tn o167 (Tn o167 (Tn o565 Tl Tl) Tl) (Tn o437 (Tn o693 Tl Tl) Tl)) (Tn o167 (Tn o373 (Tn o11 Tl Tl) Tl) (Tn o11 Tl Tl))))) (Tn o29 (Tn o45 (Tn o77 (Tn o16 (Tn o269 (Tn o525 Tl Tl) Tl) (Tn o11 (Tn o653 Tl Tl) Tl)) (Tn o205 (Tn o333 (Tn o167 Tl Tl) Tl) (Tn o167 (Tn o717 Tl Tl) Tl))) (Tn o109 (Tn o173 (Tn o301 (Tn o557 Tl Tl) Tl) (Tn o429 (Tn o685 Tl Tl) Tl)) (Tn o237 (Tn o365 (Tn o167 Tl Tl) Tl) (Tn o493 Tl Tl)))) (Tn o61 (Tn o93 (Tn o157 (Tn o11 (Tn o11 Tl Tl) Tl) (Tn o11 (Tn o167 Tl Tl) Tl)) (Tn o221 (Tn o349 (Tn o605 Tl Tl) Tl) (Tn o477 Tl Tl))) (Tn o125 (Tn o167 (Tn o11 (Tn o573 Tl Tl) Tl) (Tn o445 (Tn o11 Tl Tl) Tl)) (Tn o253 (Tn o381 (Tn o637 Tl Tl) Tl) (Tn o11 Tl Tl)))))))) (Tn boot_o_2 (Tn boot_o_4 (Tn boot_o_8 (Tn o16 (Tn o32 (Tn o64 (Tn o128 (Tn o167 (Tn o167 Tl Tl) Tl) (Tn o11 (Tn o640 Tl Tl) Tl)) (Tn o192 (Tn o320 (Tn o11 Tl Tl) Tl) (Tn o11 (Tn o704 Tl Tl) Tl))) (Tn o11 (Tn o160_4 (Tn o288 (Tn o544 Tl Tl) Tl) (Tn o416 (Tn o672 Tl Tl) Tl)) (Tn o167 (Tn o221 (Tn o608 Tl Tl) Tl) (Tn o480 Tl Tl)))) (Tn o36 (Tn o80 (Tn o12 (Tn o272 (Tn o528 Tl Tl) Tl) (Tn o167 (Tn o656 Tl Tl) Tl)) (Tn o208 (Tn o336 (Tn o592 Tl Tl) Tl) (Tn o464 (Tn o720 Tl Tl) Tl))) (Tn o12 (Tn o176 (Tn o304 (Tn o560 Tl Tl) Tl) (Tn o432 (Tn o688 Tl Tl) Tl)) (Tn o240 (Tn o368 (Tn o624 Tl Tl) Tl) (Tn o167 Tl Tl))))) (Tn o12 (Tn o12 (Tn o72 (Tn o11 (Tn o264 (Tn o520 Tl Tl) Tl) (Tn o167 (Tn o648 Tl Tl) Tl)) (Tn o200 (Tn o328 (Tn o584 Tl Tl) Tl) (Tn o456 (Tn o167 Tl Tl) Tl))) (Tn o11 (Tn o11 (Tn o296 (Tn o552 Tl Tl) Tl) (Tn o424 (Tn o680 Tl Tl) Tl)) (Tn o11 (Tn o11 (Tn o616 Tl Tl) Tl) (Tn o488 Tl Tl)))) (Tn o12 (Tn o88 (Tn o152 (Tn o280 (Tn o536 Tl Tl) Tl) (Tn o167 (Tn o664 Tl Tl) Tl)) (Tn o11 (Tn o344 (Tn o600 Tl Tl) Tl) (Tn o472 Tl Tl))) (Tn o120 (Tn o184 (Tn o312 (Tn o167 Tl Tl) Tl) (Tn o167 (Tn o696 Tl Tl) Tl)) (Tn o248 (Tn o376 (Tn o632 Tl Tl) Tl) (Tn o167 Tl Tl)))))) (Tn o12_2 (Tn o20 (Tn o36 (Tn o16 (Tn o132 (Tn o260 (Tn o516 Tl Tl) Tl) (Tn o388 (Tn o644 Tl Tl) Tl)) (Tn o167 (Tn o11 (Tn o580 Tl Tl) Tl) (Tn o452 (Tn o708 Tl Tl) Tl))) (Tn o100 (Tn o164 (Tn o292 (Tn o11 Tl Tl) Tl) (Tn o420 (Tn o167 Tl Tl) Tl)) (Tn o228 (Tn o11 (Tn o612 Tl Tl) Tl) (Tn o484 Tl Tl)))) (Tn o52 (Tn o84 (Tn o148 (Tn o276 (Tn o532 Tl Tl) Tl) (Tn o167 (Tn o660 Tl Tl) Tl)) (Tn o212 (Tn o340 (Tn o167 Tl Tl) Tl) (Tn o167 (Tn o11 Tl Tl) Tl))) (Tn o116 (Tn o180 (Tn o308 (Tn o564 Tl Tl) Tl) (Tn o436 (Tn o692 Tl Tl) Tl)) (Tn o244 (Tn o372 (Tn o167 Tl Tl) Tl) (Tn o167 Tl Tl))))) (Tn o28 (Tn o44 (Tn o12 (Tn o11 (Tn o268 (Tn o524 Tl Tl) Tl) (Tn o167 (Tn o652 Tl Tl) Tl)) (Tn o11 (Tn o332 (Tn o588 Tl Tl) Tl) (Tn o460 (Tn o716 Tl Tl) Tl))) (Tn o108 (Tn o172 (Tn o300 (Tn o556 Tl Tl) Tl) (Tn o428 (Tn o684 Tl Tl) Tl)) (Tn o236 (Tn o364 (Tn o620 Tl Tl) Tl) (Tn o492 Tl Tl)))) (Tn o60 (Tn o92 (Tn o156 (Tn o167 (Tn o167 Tl Tl) Tl) (Tn o167 (Tn o668 Tl Tl) Tl)) (Tn o220 (Tn o348 (Tn o604 Tl Tl) Tl) (Tn o11 Tl Tl))) (Tn o124 (Tn o188 (Tn o167 (Tn o572 Tl Tl) Tl) (Tn o444 (Tn o167 Tl Tl) Tl)) (Tn o252 (Tn o380 (Tn o636 Tl Tl) Tl) (Tn o167 Tl Tl))))))) (Tn boot_o_6 (Tn boot_o_10 (Tn o11 (Tn o34 (Tn o66 (Tn o130 (Tn o258 (Tn o514 Tl Tl) Tl) (Tn o386 (Tn o167 Tl Tl) Tl)) (Tn o194 (Tn o322 (Tn o578 Tl Tl) Tl) (Tn o450 (Tn o167 Tl Tl) Tl))) (Tn o98 (Tn o162 (Tn o11 (Tn o546 Tl Tl) Tl) (Tn o11 (Tn o674 Tl Tl) Tl)) (Tn o226 (Tn o354 (Tn o167 Tl Tl) Tl) (Tn o482 Tl Tl)))) (Tn o50 (Tn o11 (Tn o146 (Tn o274 (Tn o530 Tl Tl) Tl) (Tn o402 (Tn o167 Tl Tl) Tl)) (Tn o167 (Tn o338 (Tn o594 Tl Tl) Tl) (Tn o466 (Tn o722 Tl Tl) Tl))) (Tn o11 (Tn o178 (Tn o11 (Tn o11 Tl Tl) Tl) (Tn o11 (Tn o690 Tl Tl) Tl)) (Tn o242 (Tn o167 (Tn o626 Tl Tl) Tl) (Tn o498 Tl Tl))))) (Tn o11 (Tn o42 (Tn o74 (Tn o138 (Tn o266 (Tn o522 Tl Tl) Tl) (Tn o394 (Tn o167 Tl Tl) Tl)) (Tn o202 (Tn o167 (Tn o586 Tl Tl) Tl) (Tn o458 (Tn o714 Tl Tl) Tl))) (Tn o106 (Tn o170 (Tn o167 (Tn o167 Tl Tl) Tl) (Tn o167 (Tn o11 Tl Tl) Tl)) (Tn o234 (Tn o362 (Tn o618 Tl Tl) Tl) (Tn o11 Tl Tl)))) (Tn o11 (Tn o90 (Tn o154 (Tn o282 (Tn o538 Tl Tl) Tl) (Tn o410 (Tn o666 Tl Tl) Tl)) (Tn o218 (Tn o346 (Tn o11 Tl Tl) Tl) (Tn o474 Tl Tl))) (Tn o122 (Tn o11 (Tn o314 (Tn o570 Tl Tl) Tl) (Tn o442 (Tn o698 Tl Tl) Tl)) (Tn o11 (Tn o167 (Tn o11 Tl Tl) Tl) (Tn o506 Tl Tl)))))) (Tn o14 (Tn o22 (Tn o38 (Tn o11 (Tn o12 (Tn o11 (Tn o11 Tl Tl) Tl) (Tn o390 (Tn o167 Tl Tl) Tl)) (Tn o198 (Tn o326 (Tn o582 Tl Tl) Tl) (Tn o167 (Tn o710 Tl Tl) Tl))) (Tn o102 (Tn o166 (Tn o294 (Tn o550 Tl Tl) Tl) (Tn o422 (Tn o678 Tl Tl) Tl)) (Tn o230 (Tn o358 (Tn o167 Tl Tl) Tl) (Tn o221 Tl Tl)))) (Tn o54 (Tn o86 (Tn o150 (Tn o11 (Tn o11 Tl Tl) Tl) (Tn o406 (Tn o167 Tl Tl) Tl)) (Tn o214 (Tn o11 (Tn o598 Tl Tl) Tl) (Tn o470 Tl Tl))) (Tn o118 (Tn o11 (Tn o11 (Tn o566 Tl Tl) Tl) (Tn o438 (Tn o167 Tl Tl) Tl)) (Tn o11 (Tn o167 (Tn o630 Tl Tl) Tl) (Tn o502 Tl Tl))))) (Tn o30 (Tn o46 (Tn o11 (Tn o142_1 (Tn o167 (Tn o167 Tl Tl) Tl) (Tn o398 (Tn o167 Tl Tl) Tl)) (Tn o206 (Tn o167 (Tn o11 Tl Tl) Tl) (Tn o11 (Tn o167 Tl Tl) Tl))) (Tn o110 (Tn o167 (Tn o302 (Tn o558 Tl Tl) Tl) (Tn o430 (Tn o686 Tl Tl) Tl)) (Tn o167 (Tn o167 (Tn o11 Tl Tl) Tl) (Tn o494 Tl Tl)))) (Tn o62 (Tn o94 (Tn o158 (Tn o286 (Tn o542 Tl Tl) Tl) (Tn o414 (Tn o11 Tl Tl) Tl)) (Tn o222 (Tn o350 (Tn o606 Tl Tl) Tl) (Tn o478 Tl Tl))) (Tn o11 (Tn o11 (Tn o318 (Tn o574 Tl Tl) Tl) (Tn o446 (Tn o702 Tl Tl) Tl)) (Tn o254 (Tn o382 (Tn o638 Tl Tl) Tl) (Tn o510 Tl Tl))))))))
def TC1 (P : Params) : BT := up (TS2 P) [(726, o726 P), (727, o727 P), (728, o727 P)]
def TC1a (P : Params) : BT := up (TC1 P) []
def TC1b (P : Params) : BT := up (TC1a P) [(726, o726_1 P), (727, o727_1 P), (728, o728_1 P), (729, o11 P), (730, o730 P)]
def TC1c (P : Params) : BT := up (TC1b P) [(142, o142_2 P), (728, o728_2 P)]
def TC2 (P : Params) : BT := up (TC1c P) [(731, o726 P), (732, o727 P), (733, o727 P)]
def TC2a (P : Params) : BT := up (TC2 P) []
def TC2b (P : Params) : BT := up (TC2a P) [(731, o726_1 P), (732, o732_1 P), (733, o733_1 P), (734, o734 P), (735, o735 P), (736, o736 P), (737, o737 P), (738, o738 P), (739, o739 P), (740, o740 P), (741, o741 P), (742, o742 P), (743, o743 P), (744, o744 P), (745, o745 P), (746, o746 P), (747, o747 P), (748, o748 P), (749, o749 P), (750, o750 P), (751, o751 P), (752, o752 P), (753, o753 P), (754, o754 P), (755, o755 P), (756, o756 P), (757, o757 P), (758, o758 P), (759, o759 P), (760, o760 P), (761, o761 P), (762, o762 P), (763, o763 P), (764, o764 P), (765, o765 P), (766, o766 P), (767, o767 P), (768, o768 P), (769, o769 P), (770, o770 P), (771, o771 P), (772, o772 P), (773, o773 P), (774, o774 P), (775, o775 P), (776, o776 P), (777, o777 P), (778, o778 P), (779, o779 P), (780, o780 P), (781, o781 P), (782, o782 P), (783, o783 P), (784, o784 P), (785, o785 P), (786, o786 P), (787, o787 P), (788, o788 P), (789, o789 P), (790, o790 P), (791, o791 P), (792, o792 P), (793, o11 P), (794, o794 P)]
def TC2c : Pm → BT := Tn boot_o_0 (Tn boot_o_1 (Tn o3_1 (Tn boot_o_7 (Tn o15 (Tn o31 (Tn o63 (Tn o12 (Tn o255 (Tn o511 Tl Tl) (Tn o767 Tl Tl)) (Tn o383 (Tn o164 Tl Tl) Tl)) (Tn o191 (Tn o319 (Tn o167 Tl Tl) Tl) (Tn o167 (Tn o703 Tl Tl) Tl))) (Tn o95 (Tn o159 (Tn o287 (Tn o543 Tl Tl) Tl) (Tn o415 (Tn o671 Tl Tl) Tl)) (Tn o223 (Tn o351 (Tn o607 Tl Tl) Tl) (Tn o479 (Tn o735 Tl Tl) Tl)))) (Tn o47 (Tn o79 (Tn o11 (Tn o11 (Tn o11 Tl Tl) (Tn o783 Tl Tl)) (Tn o399 (Tn o11 Tl Tl) Tl)) (Tn o207 (Tn o11 (Tn o591 Tl Tl) Tl) (Tn o463 (Tn o11 Tl Tl) Tl))) (Tn o11 (Tn o11 (Tn o303 (Tn o559 Tl Tl) Tl) (Tn o431 (Tn o687 Tl Tl) Tl)) (Tn o11 (Tn o11 (Tn o623 Tl Tl) Tl) (Tn o495 (Tn o751 Tl Tl) Tl))))) (Tn o11 (Tn o11 (Tn o71 (Tn o135 (Tn o263 (Tn o519 Tl Tl) (Tn o775 Tl Tl)) (Tn o391 (Tn o11 Tl Tl) Tl)) (Tn o199 (Tn o327 (Tn o583 Tl Tl) Tl) (Tn o11 (Tn o711 Tl Tl) Tl))) (Tn o103 (Tn o167 (Tn o164 (Tn o551 Tl Tl) Tl) (Tn o164 (Tn o679 Tl Tl) Tl)) (Tn o167 (Tn o167 (Tn o11 Tl Tl) Tl) (Tn o487 (Tn o743 Tl Tl) Tl)))) (Tn o11 (Tn o87 (Tn o151 (Tn o279 (Tn o535 Tl Tl) (Tn o791 Tl Tl)) (Tn o407 (Tn o11 Tl Tl) Tl)) (Tn o215 (Tn o343 (Tn o599 Tl Tl) Tl) (Tn o471 (Tn o727_1 Tl Tl) Tl))) (Tn o119 (Tn o183 (Tn o311 (Tn o567 Tl Tl) Tl) (Tn o439 (Tn o11 Tl Tl) Tl)) (Tn o247 (Tn o11 (Tn o631 Tl Tl) Tl) (Tn o503 (Tn o759 Tl Tl) Tl)))))) (Tn o11 (Tn o19 (Tn o35 (Tn o11 (Tn o131 (Tn o259 (Tn o515 Tl Tl) (Tn o771 Tl Tl)) (Tn o387 (Tn o11 Tl Tl) Tl)) (Tn o195 (Tn o167 (Tn o579 Tl Tl) Tl) (Tn o451 (Tn o11 Tl Tl) Tl))) (Tn o11 (Tn o163 (Tn o291 (Tn o167 Tl Tl) Tl) (Tn o419 (Tn o675 Tl Tl) Tl)) (Tn o227 (Tn o167 (Tn o11 Tl Tl) Tl) (Tn o483 (Tn o739 Tl Tl) Tl)))) (Tn o11 (Tn o12 (Tn o147_2 (Tn o275 (Tn o531 Tl Tl) (Tn o787 Tl Tl)) (Tn o403 (Tn o11 Tl Tl) Tl)) (Tn o11 (Tn o339 (Tn o595 Tl Tl) Tl) (Tn o467 (Tn o723 Tl Tl) Tl))) (Tn o115 (Tn o179 (Tn o307 (Tn o563 Tl Tl) Tl) (Tn o435 (Tn o691 Tl Tl) Tl)) (Tn o243 (Tn o11 (Tn o627 Tl Tl) Tl) (Tn o499 (Tn o755 Tl Tl) Tl))))) (Tn o27 (Tn o11 (Tn o11 (Tn o139 (Tn o267 (Tn o164 Tl Tl) (Tn o779 Tl Tl)) (Tn o395 (Tn o11 Tl Tl) Tl)) (Tn o167 (Tn o11 (Tn o587 Tl Tl) Tl) (Tn o459 (Tn o715 Tl Tl) Tl))) (Tn o11 (Tn o171 (Tn o11 (Tn o11 Tl Tl) Tl) (Tn o11 (Tn o683 Tl Tl) Tl)) (Tn o235 (Tn o363 (Tn o619 Tl Tl) Tl) (Tn o491 (Tn o747 Tl Tl) Tl)))) (Tn o59 (Tn o91 (Tn o155 (Tn o283 (Tn o539 Tl Tl) Tl) (Tn o411 (Tn o667 Tl Tl) Tl)) (Tn o219 (Tn o11 (Tn o603 Tl Tl) Tl) (Tn o167 (Tn o726_1 Tl Tl) Tl))) (Tn o123 (Tn o187 (Tn o315 (Tn o571 Tl Tl) Tl) (Tn o443 (Tn o699 Tl Tl) Tl)) (Tn o251 (Tn o11 (Tn o635 Tl Tl) Tl) (Tn o507 (Tn o763 Tl Tl) Tl))))))) (Tn boot_o_5 (Tn boot_o_9 (Tn o17 (Tn o33 (Tn o65 (Tn o11 (Tn o11 (Tn o11 Tl Tl) (Tn o769 Tl Tl)) (Tn o385 (Tn o641 Tl Tl) Tl)) (Tn o193 (Tn o321 (Tn o577 Tl Tl) Tl) (Tn o449 (Tn o705 Tl Tl) Tl))) (Tn o16 (Tn o161 (Tn o289 (Tn o545 Tl Tl) Tl) (Tn o417 (Tn o673 Tl Tl) Tl)) (Tn o11 (Tn o353 (Tn o609 Tl Tl) Tl) (Tn o11 (Tn o737 Tl Tl) Tl)))) (Tn o16 (Tn o81 (Tn o145 (Tn o273 (Tn o529 Tl Tl) (Tn o785 Tl Tl)) (Tn o11 (Tn o657 Tl Tl) Tl)) (Tn o209 (Tn o337 (Tn o593 Tl Tl) Tl) (Tn o465 (Tn o721 Tl Tl) Tl))) (Tn o113 (Tn o177 (Tn o167 (Tn o167 Tl Tl) Tl) (Tn o167 (Tn o689 Tl Tl) Tl)) (Tn o241 (Tn o369 (Tn o625 Tl Tl) Tl) (Tn o11 (Tn o753 Tl Tl) Tl))))) (Tn o25 (Tn o41 (Tn o73 (Tn o137 (Tn o265 (Tn o521 Tl Tl) (Tn o777 Tl Tl)) (Tn o11 (Tn o649 Tl Tl) Tl)) (Tn o201 (Tn o329 (Tn o585 Tl Tl) Tl) (Tn o457 (Tn o11 Tl Tl) Tl))) (Tn o12 (Tn o169 (Tn o297 (Tn o553 Tl Tl) Tl) (Tn o425 (Tn o681 Tl Tl) Tl)) (Tn o233 (Tn o361 (Tn o617 Tl Tl) Tl) (Tn o167 (Tn o745 Tl Tl) Tl)))) (Tn o57 (Tn o89 (Tn o153 (Tn o281 (Tn o537 Tl Tl) (Tn o11 Tl Tl)) (Tn o11 (Tn o665 Tl Tl) Tl)) (Tn o217 (Tn o345 (Tn o601 Tl Tl) Tl) (Tn o473 (Tn o11 Tl Tl) Tl))) (Tn o121 (Tn o167 (Tn o313 (Tn o11 Tl Tl) Tl) (Tn o11 (Tn o697 Tl Tl) Tl)) (Tn o167 (Tn o377 (Tn o633 Tl Tl) Tl) (Tn o11 (Tn o761 Tl Tl) Tl)))))) (Tn o13 (Tn o21 (Tn o16 (Tn o69 (Tn o11 (Tn o261 (Tn o517 Tl Tl) (Tn o773 Tl Tl)) (Tn o221 (Tn o645 Tl Tl) Tl)) (Tn o11 (Tn o325 (Tn o11 Tl Tl) Tl) (Tn o453 (Tn o709 Tl Tl) Tl))) (Tn o101 (Tn o165 (Tn o293 (Tn o549 Tl Tl) Tl) (Tn o421 (Tn o11 Tl Tl) Tl)) (Tn o229 (Tn o357 (Tn o613 Tl Tl) Tl) (Tn o485 (Tn o741 Tl Tl) Tl)))) (Tn o53 (Tn o11 (Tn o149 (Tn o167 (Tn o167 Tl Tl) (Tn o789 Tl Tl)) (Tn o11 (Tn o661 Tl Tl) Tl)) (Tn o213 (Tn o167 (Tn o11 Tl Tl) Tl) (Tn o11 (Tn o725 Tl Tl) Tl))) (Tn o117 (Tn o167 (Tn o167 (Tn o565 Tl Tl) Tl) (Tn o437 (Tn o693 Tl Tl) Tl)) (Tn o167 (Tn o373 (Tn o11 Tl Tl) Tl) (Tn o11 (Tn o757 Tl Tl) Tl))))) (Tn o29 (Tn o45 (Tn o77 (Tn o16 (Tn o269 (Tn o525 Tl Tl) (Tn o781 Tl Tl)) (Tn o11 (Tn o653 Tl Tl) Tl)) (Tn o205 (Tn o333 (Tn o167 Tl Tl) Tl) (Tn o167 (Tn o717 Tl Tl) Tl))) (Tn o109 (Tn o173 (Tn o301 (Tn o557 Tl Tl) Tl) (Tn o429 (Tn o685 Tl Tl) Tl)) (Tn o237 (Tn o365 (Tn o167 Tl Tl) Tl) (Tn o493 (Tn o749 Tl Tl) Tl)))) (Tn o61 (Tn o93 (Tn o157 (Tn o11 (Tn o11 Tl Tl) Tl) (Tn o11 (Tn o167 Tl Tl) Tl)) (Tn o221 (Tn o349 (Tn o605 Tl Tl) Tl) (Tn o477 (Tn o728_2 Tl Tl) Tl))) (Tn o125 (Tn o167 (Tn o11 (Tn o573 Tl Tl) Tl) (Tn o445 (Tn o11 Tl Tl) Tl)) (Tn o253 (Tn o381 (Tn o637 Tl Tl) Tl) (Tn o11 (Tn o765 Tl Tl) Tl)))))))) (Tn boot_o_2 (Tn boot_o_4 (Tn boot_o_8 (Tn o16 (Tn o32 (Tn o64 (Tn o128 (Tn o167 (Tn o167 Tl Tl) (Tn o768 Tl Tl)) (Tn o11 (Tn o640 Tl Tl) Tl)) (Tn o192 (Tn o320 (Tn o11 Tl Tl) Tl) (Tn o11 (Tn o704 Tl Tl) Tl))) (Tn o11 (Tn o160_4 (Tn o288 (Tn o544 Tl Tl) Tl) (Tn o416 (Tn o672 Tl Tl) Tl)) (Tn o167 (Tn o221 (Tn o608 Tl Tl) Tl) (Tn o480 (Tn o736 Tl Tl) Tl)))) (Tn o36 (Tn o80 (Tn o12 (Tn o272 (Tn o528 Tl Tl) (Tn o784 Tl Tl)) (Tn o167 (Tn o656 Tl Tl) Tl)) (Tn o208 (Tn o336 (Tn o592 Tl Tl) Tl) (Tn o464 (Tn o720 Tl Tl) Tl))) (Tn o12 (Tn o176 (Tn o304 (Tn o560 Tl Tl) Tl) (Tn o432 (Tn o688 Tl Tl) Tl)) (Tn o240 (Tn o368 (Tn o624 Tl Tl) Tl) (Tn o167 (Tn o752 Tl Tl) Tl))))) (Tn o12 (Tn o12 (Tn o72 (Tn o11 (Tn o264 (Tn o520 Tl Tl) (Tn o776 Tl Tl)) (Tn o167 (Tn o648 Tl Tl) Tl)) (Tn o200 (Tn o328 (Tn o584 Tl Tl) Tl) (Tn o456 (Tn o167 Tl Tl) Tl))) (Tn o11 (Tn o11 (Tn o296 (Tn o552 Tl Tl) Tl) (Tn o424 (Tn o680 Tl Tl) Tl)) (Tn o11 (Tn o11 (Tn o616 Tl Tl) Tl) (Tn o488 (Tn o744 Tl Tl) Tl)))) (Tn o12 (Tn o88 (Tn o152 (Tn o280 (Tn o536 Tl Tl) (Tn o792 Tl Tl)) (Tn o167 (Tn o664 Tl Tl) Tl)) (Tn o11 (Tn o344 (Tn o600 Tl Tl) Tl) (Tn o472 (Tn o728_2 Tl Tl) Tl))) (Tn o120 (Tn o184 (Tn o312 (Tn o167 Tl Tl) Tl) (Tn o167 (Tn o696 Tl Tl) Tl)) (Tn o248 (Tn o376 (Tn o632 Tl Tl) Tl) (Tn o167 (Tn o760 Tl Tl) Tl)))))) (Tn o12_2 (Tn o20 (Tn o36 (Tn o16 (Tn o132 (Tn o260 (Tn o516 Tl Tl) (Tn o772 Tl Tl)) (Tn o388 (Tn o644 Tl Tl) Tl)) (Tn o167 (Tn o11 (Tn o580 Tl Tl) Tl) (Tn o452 (Tn o708 Tl Tl) Tl))) (Tn o100 (Tn o164 (Tn o292 (Tn o11 Tl Tl) Tl) (Tn o420 (Tn o167 Tl Tl) Tl)) (Tn o228 (Tn o11 (Tn o612 Tl Tl) Tl) (Tn o484 (Tn o740 Tl Tl) Tl)))) (Tn o52 (Tn o84 (Tn o148 (Tn o276 (Tn o532 Tl Tl) (Tn o788 Tl Tl)) (Tn o167 (Tn o660 Tl Tl) Tl)) (Tn o212 (Tn o340 (Tn o167 Tl Tl) Tl) (Tn o167 (Tn o11 Tl Tl) Tl))) (Tn o116 (Tn o180 (Tn o308 (Tn o564 Tl Tl) Tl) (Tn o436 (Tn o692 Tl Tl) Tl)) (Tn o244 (Tn o372 (Tn o167 Tl Tl) Tl) (Tn o167 (Tn o756 Tl Tl) Tl))))) (Tn o28 (Tn o44 (Tn o12 (Tn o11 (Tn o268 (Tn o524 Tl Tl) (Tn o780 Tl Tl)) (Tn o167 (Tn o652 Tl Tl) Tl)) (Tn o11 (Tn o332 (Tn o588 Tl Tl) Tl) (Tn o460 (Tn o716 Tl Tl) Tl))) (Tn o108 (Tn o172 (Tn o300 (Tn o556 Tl Tl) Tl) (Tn o428 (Tn o684 Tl Tl) Tl)) (Tn o236 (Tn o364 (Tn o620 Tl Tl) Tl) (Tn o492 (Tn o748 Tl Tl) Tl)))) (Tn o60 (Tn o92 (Tn o156 (Tn o167 (Tn o167 Tl Tl) Tl) (Tn o167 (Tn o668 Tl Tl) Tl)) (Tn o220 (Tn o348 (Tn o604 Tl Tl) Tl) (Tn o11 (Tn o732_1 Tl Tl) Tl))) (Tn o124 (Tn o188 (Tn o167 (Tn o572 Tl Tl) Tl) (Tn o444 (Tn o167 Tl Tl) Tl)) (Tn o252 (Tn o380 (Tn o636 Tl Tl) Tl) (Tn o167 (Tn o764 Tl Tl) Tl))))))) (Tn boot_o_6 (Tn boot_o_10 (Tn o11 (Tn o34 (Tn o66 (Tn o130 (Tn o258 (Tn o514 Tl Tl) (Tn o770 Tl Tl)) (Tn o386 (Tn o167 Tl Tl) Tl)) (Tn o194 (Tn o322 (Tn o578 Tl Tl) Tl) (Tn o450 (Tn o167 Tl Tl) Tl))) (Tn o98 (Tn o162 (Tn o11 (Tn o546 Tl Tl) Tl) (Tn o11 (Tn o674 Tl Tl) Tl)) (Tn o226 (Tn o354 (Tn o167 Tl Tl) Tl) (Tn o482 (Tn o738 Tl Tl) Tl)))) (Tn o50 (Tn o11 (Tn o146 (Tn o274 (Tn o530 Tl Tl) (Tn o786 Tl Tl)) (Tn o402 (Tn o167 Tl Tl) Tl)) (Tn o167 (Tn o338 (Tn o594 Tl Tl) Tl) (Tn o466 (Tn o722 Tl Tl) Tl))) (Tn o11 (Tn o178 (Tn o11 (Tn o11 Tl Tl) Tl) (Tn o11 (Tn o690 Tl Tl) Tl)) (Tn o242 (Tn o167 (Tn o626 Tl Tl) Tl) (Tn o498 (Tn o754 Tl Tl) Tl))))) (Tn o11 (Tn o42 (Tn o74 (Tn o138 (Tn o266 (Tn o522 Tl Tl) (Tn o778 Tl Tl)) (Tn o394 (Tn o167 Tl Tl) Tl)) (Tn o202 (Tn o167 (Tn o586 Tl Tl) Tl) (Tn o458 (Tn o714 Tl Tl) Tl))) (Tn o106 (Tn o170 (Tn o167 (Tn o167 Tl Tl) Tl) (Tn o167 (Tn o11 Tl Tl) Tl)) (Tn o234 (Tn o362 (Tn o618 Tl Tl) Tl) (Tn o11 (Tn o746 Tl Tl) Tl)))) (Tn o11 (Tn o90 (Tn o154 (Tn o282 (Tn o538 Tl Tl) (Tn o794 Tl Tl)) (Tn o410 (Tn o666 Tl Tl) Tl)) (Tn o218 (Tn o346 (Tn o11 Tl Tl) Tl) (Tn o474 (Tn o730 Tl Tl) Tl))) (Tn o122 (Tn o11 (Tn o314 (Tn o570 Tl Tl) Tl) (Tn o442 (Tn o698 Tl Tl) Tl)) (Tn o11 (Tn o167 (Tn o11 Tl Tl) Tl) (Tn o506 (Tn o762 Tl Tl) Tl)))))) (Tn o14 (Tn o22 (Tn o38 (Tn o11 (Tn o12 (Tn o11 (Tn o11 Tl Tl) (Tn o774 Tl Tl)) (Tn o390 (Tn o167 Tl Tl) Tl)) (Tn o198 (Tn o326 (Tn o582 Tl Tl) Tl) (Tn o167 (Tn o710 Tl Tl) Tl))) (Tn o102 (Tn o166 (Tn o294 (Tn o550 Tl Tl) Tl) (Tn o422 (Tn o678 Tl Tl) Tl)) (Tn o230 (Tn o358 (Tn o167 Tl Tl) Tl) (Tn o221 (Tn o742 Tl Tl) Tl)))) (Tn o54 (Tn o86 (Tn o150 (Tn o11 (Tn o11 Tl Tl) (Tn o790 Tl Tl)) (Tn o406 (Tn o167 Tl Tl) Tl)) (Tn o214 (Tn o11 (Tn o598 Tl Tl) Tl) (Tn o470 (Tn o726_1 Tl Tl) Tl))) (Tn o118 (Tn o11 (Tn o11 (Tn o566 Tl Tl) Tl) (Tn o438 (Tn o167 Tl Tl) Tl)) (Tn o11 (Tn o167 (Tn o630 Tl Tl) Tl) (Tn o502 (Tn o758 Tl Tl) Tl))))) (Tn o30 (Tn o46 (Tn o11 (Tn o142_3 (Tn o167 (Tn o167 Tl Tl) (Tn o782 Tl Tl)) (Tn o398 (Tn o167 Tl Tl) Tl)) (Tn o206 (Tn o167 (Tn o11 Tl Tl) Tl) (Tn o11 (Tn o167 Tl Tl) Tl))) (Tn o110 (Tn o167 (Tn o302 (Tn o558 Tl Tl) Tl) (Tn o430 (Tn o686 Tl Tl) Tl)) (Tn o167 (Tn o167 (Tn o11 Tl Tl) Tl) (Tn o494 (Tn o750 Tl Tl) Tl)))) (Tn o62 (Tn o94 (Tn o158 (Tn o286 (Tn o542 Tl Tl) Tl) (Tn o414 (Tn o11 Tl Tl) Tl)) (Tn o222 (Tn o350 (Tn o606 Tl Tl) Tl) (Tn o478 (Tn o734 Tl Tl) Tl))) (Tn o11 (Tn o11 (Tn o318 (Tn o574 Tl Tl) Tl) (Tn o446 (Tn o702 Tl Tl) Tl)) (Tn o254 (Tn o382 (Tn o638 Tl Tl) Tl) (Tn o510 (Tn o766 Tl Tl) Tl))))))))
def TC3 (P : Params) : BT := up (TC2c P) [(795, o726 P), (796, o727 P), (797, o727 P)]
def TC3a (P : Params) : BT := up (TC3 P) []
def TC3b (P : Params) : BT := up (TC3a P) [(795, o726_1 P), (796, o796_1 P), (797, o797_1 P), (798, o798 P), (799, o799 P), (800, o800 P), (801, o801 P), (802, o802 P), (803, o803 P), (804, o804 P), (805, o805 P), (806, o806 P), (807, o807 P), (808, o808 P), (809, o809 P), (810, o810 P), (811, o811 P), (812, o812 P), (813, o813 P), (814, o814 P), (815, o815 P), (816, o816 P), (817, o817 P), (818, o818 P), (819, o819 P), (820, o820 P), (821, o821 P), (822, o822 P), (823, o823 P), (824, o824 P), (825, o825 P), (826, o826 P), (827, o827 P), (828, o828 P), (829, o829 P), (830, o830 P), (831, o831 P), (832, o832 P), (833, o833 P), (834, o834 P), (835, o835 P), (836, o836 P), (837, o837 P), (838, o838 P), (839, o839 P), (840, o840 P), (841, o841 P), (842, o842 P), (843, o843 P), (844, o844 P), (845, o845 P), (846, o846 P), (847, o847 P), (848, o848 P), (849, o849 P), (850, o850 P), (851, o851 P), (852, o852 P), (853, o853 P), (854, o854 P), (855, o855 P), (856, o856 P), (857, o857 P), (858, o858 P), (859, o859 P), (860, o860 P), (861, o861 P), (862, o862 P), (863, o863 P), (864, o864 P), (865, o865 P), (866, o866 P), (867, o867 P), (868, o868 P), (869, o869 P), (870, o870 P), (871, o871 P), (872, o872 P), (873, o873 P), (874, o874 P), (875, o875 P), (876, o876 P), (877, o877 P), (878, o878 P), (879, o879 P), (880, o880 P), (881, o881 P), (882, o882 P), (883, o883 P), (884, o884 P), (885, o885 P), (886, o11 P), (887, o887 P)]
def TC3c (P : Params) : BT := up (TC3b P) [(142, o142_4 P), (797, o728_2 P)]
def TC4 (P : Params) : BT := up (TC3c P) [(888, o726 P), (889, o727 P), (890, o727 P)]
def TC4a (P : Params) : BT := up (TC4 P) []
def TC4b (P : Params) : BT := up (TC4a P) [(888, o726_1 P), (889, o889_1 P), (890, o890_1 P), (891, o891 P), (892, o892 P), (893, o893 P), (894, o894 P), (895, o895 P), (896, o896 P), (897, o897 P), (898, o898 P), (899, o899 P), (900, o900 P), (901, o901 P), (902, o902 P), (903, o903 P), (904, o904 P), (905, o905 P), (906, o906 P), (907, o907 P), (908, o908 P), (909, o909 P), (910, o910 P), (911, o911 P), (912, o912 P), (913, o913 P), (914, o914 P), (915, o915 P), (916, o916 P), (917, o917 P), (918, o918 P), (919, o919 P), (920, o920 P), (921, o921 P), (922, o922 P), (923, o923 P), (924, o924 P), (925, o925 P), (926, o926 P), (927, o927 P), (928, o928 P), (929, o929 P), (930, o930 P), (931, o931 P), (932, o932 P), (933, o933 P), (934, o934 P), (935, o935 P), (936, o936 P), (937, o937 P), (938, o938 P), (939, o939 P), (940, o940 P), (941, o941 P), (942, o942 P), (943, o943 P), (944, o944 P), (945, o945 P), (946, o946 P), (947, o947 P), (948, o948 P), (949, o949 P), (950, o950 P), (951, o951 P), (952, o952 P), (953, o953 P), (954, o954 P), (955, o955 P), (956, o956 P), (957, o957 P), (958, o958 P), (959, o959 P), (960, o960 P), (961, o961 P), (962, o962 P), (963, o963 P), (964, o964 P), (965, o965 P), (966, o966 P), (967, o967 P), (968, o968 P), (969, o969 P), (970, o970 P), (971, o971 P), (972, o11 P), (973, o973 P)]
def TC4c : Pm → BT := Tn boot_o_0 (Tn boot_o_1 (Tn o3_1 (Tn boot_o_7 (Tn o15 (Tn o31 (Tn o63 (Tn o12 (Tn o255 (Tn o511 Tl Tl) (Tn o767 Tl Tl)) (Tn o383 (Tn o164 Tl Tl) (Tn o895 Tl Tl))) (Tn o191 (Tn o319 (Tn o167 Tl Tl) (Tn o831 Tl Tl)) (Tn o167 (Tn o703 Tl Tl) (Tn o959 Tl Tl)))) (Tn o95 (Tn o159 (Tn o287 (Tn o543 Tl Tl) (Tn o799 Tl Tl)) (Tn o415 (Tn o671 Tl Tl) (Tn o927 Tl Tl))) (Tn o223 (Tn o351 (Tn o607 Tl Tl) (Tn o863 Tl Tl)) (Tn o479 (Tn o735 Tl Tl) Tl)))) (Tn o47 (Tn o79 (Tn o11 (Tn o11 (Tn o11 Tl Tl) (Tn o783 Tl Tl)) (Tn o399 (Tn o11 Tl Tl) (Tn o911 Tl Tl))) (Tn o207 (Tn o11 (Tn o591 Tl Tl) (Tn o847 Tl Tl)) (Tn o463 (Tn o11 Tl Tl) Tl))) (Tn o11 (Tn o11 (Tn o303 (Tn o559 Tl Tl) (Tn o815 Tl Tl)) (Tn o431 (Tn o687 Tl Tl) (Tn o943 Tl Tl))) (Tn o11 (Tn o11 (Tn o623 Tl Tl) (Tn o879 Tl Tl)) (Tn o495 (Tn o751 Tl Tl) Tl))))) (Tn o11 (Tn o11 (Tn o71 (Tn o135 (Tn o263 (Tn o519 Tl Tl) (Tn o775 Tl Tl)) (Tn o391 (Tn o11 Tl Tl) (Tn o903 Tl Tl))) (Tn o199 (Tn o327 (Tn o583 Tl Tl) (Tn o839 Tl Tl)) (Tn o11 (Tn o711 Tl Tl) (Tn o967 Tl Tl)))) (Tn o103 (Tn o167 (Tn o164 (Tn o551 Tl Tl) (Tn o807 Tl Tl)) (Tn o164 (Tn o679 Tl Tl) (Tn o935 Tl Tl))) (Tn o167 (Tn o167 (Tn o11 Tl Tl) (Tn o871 Tl Tl)) (Tn o487 (Tn o743 Tl Tl) Tl)))) (Tn o11 (Tn o87 (Tn o151 (Tn o279 (Tn o535 Tl Tl) (Tn o791 Tl Tl)) (Tn o407 (Tn o11 Tl Tl) (Tn o919 Tl Tl))) (Tn o215 (Tn o343 (Tn o599 Tl Tl) (Tn o855 Tl Tl)) (Tn o471 (Tn o727_1 Tl Tl) Tl))) (Tn o119 (Tn o183 (Tn o311 (Tn o567 Tl Tl) (Tn o823 Tl Tl)) (Tn o439 (Tn o11 Tl Tl) (Tn o951 Tl Tl))) (Tn o247 (Tn o11 (Tn o631 Tl Tl) (Tn o887 Tl Tl)) (Tn o503 (Tn o759 Tl Tl) Tl)))))) (Tn o11 (Tn o19 (Tn o35 (Tn o11 (Tn o131 (Tn o259 (Tn o515 Tl Tl) (Tn o771 Tl Tl)) (Tn o387 (Tn o11 Tl Tl) (Tn o899 Tl Tl))) (Tn o195 (Tn o167 (Tn o579 Tl Tl) (Tn o835 Tl Tl)) (Tn o451 (Tn o11 Tl Tl) (Tn o963 Tl Tl)))) (Tn o11 (Tn o163 (Tn o291 (Tn o167 Tl Tl) (Tn o803 Tl Tl)) (Tn o419 (Tn o675 Tl Tl) (Tn o931 Tl Tl))) (Tn o227 (Tn o167 (Tn o11 Tl Tl) (Tn o867 Tl Tl)) (Tn o483 (Tn o739 Tl Tl) Tl)))) (Tn o11 (Tn o12 (Tn o147_2 (Tn o275 (Tn o531 Tl Tl) (Tn o787 Tl Tl)) (Tn o403 (Tn o11 Tl Tl) (Tn o915 Tl Tl))) (Tn o11 (Tn o339 (Tn o595 Tl Tl) (Tn o851 Tl Tl)) (Tn o467 (Tn o723 Tl Tl) Tl))) (Tn o115 (Tn o179 (Tn o307 (Tn o563 Tl Tl) (Tn o819 Tl Tl)) (Tn o435 (Tn o691 Tl Tl) (Tn o947 Tl Tl))) (Tn o243 (Tn o11 (Tn o627 Tl Tl) (Tn o883 Tl Tl)) (Tn o499 (Tn o755 Tl Tl) Tl))))) (Tn o27 (Tn o11 (Tn o11 (Tn o139 (Tn o267 (Tn o164 Tl Tl) (Tn o779 Tl Tl)) (Tn o395 (Tn o11 Tl Tl) (Tn o907 Tl Tl))) (Tn o167 (Tn o11 (Tn o587 Tl Tl) (Tn o843 Tl Tl)) (Tn o459 (Tn o715 Tl Tl) (Tn o971 Tl Tl)))) (Tn o11 (Tn o171 (Tn o11 (Tn o11 Tl Tl) (Tn o811 Tl Tl)) (Tn o11 (Tn o683 Tl Tl) (Tn o939 Tl Tl))) (Tn o235 (Tn o363 (Tn o619 Tl Tl) (Tn o875 Tl Tl)) (Tn o491 (Tn o747 Tl Tl) Tl)))) (Tn o59 (Tn o91 (Tn o155 (Tn o283 (Tn o539 Tl Tl) (Tn o726_1 Tl Tl)) (Tn o411 (Tn o667 Tl Tl) (Tn o923 Tl Tl))) (Tn o219 (Tn o11 (Tn o603 Tl Tl) (Tn o859 Tl Tl)) (Tn o167 (Tn o726_1 Tl Tl) Tl))) (Tn o123 (Tn o187 (Tn o315 (Tn o571 Tl Tl) (Tn o827 Tl Tl)) (Tn o443 (Tn o699 Tl Tl) (Tn o955 Tl Tl))) (Tn o251 (Tn o11 (Tn o635 Tl Tl) (Tn o891 Tl Tl)) (Tn o507 (Tn o763 Tl Tl) Tl))))))) (Tn boot_o_5 (Tn boot_o_9 (Tn o17 (Tn o33 (Tn o65 (Tn o11 (Tn o11 (Tn o11 Tl Tl) (Tn o769 Tl Tl)) (Tn o385 (Tn o641 Tl Tl) (Tn o897 Tl Tl))) (Tn o193 (Tn o321 (Tn o577 Tl Tl) (Tn o833 Tl Tl)) (Tn o449 (Tn o705 Tl Tl) (Tn o961 Tl Tl)))) (Tn o16 (Tn o161 (Tn o289 (Tn o545 Tl Tl) (Tn o801 Tl Tl)) (Tn o417 (Tn o673 Tl Tl) (Tn o929 Tl Tl))) (Tn o11 (Tn o353 (Tn o609 Tl Tl) (Tn o865 Tl Tl)) (Tn o11 (Tn o737 Tl Tl) Tl)))) (Tn o16 (Tn o81 (Tn o145 (Tn o273 (Tn o529 Tl Tl) (Tn o785 Tl Tl)) (Tn o11 (Tn o657 Tl Tl) (Tn o913 Tl Tl))) (Tn o209 (Tn o337 (Tn o593 Tl Tl) (Tn o849 Tl Tl)) (Tn o465 (Tn o721 Tl Tl) Tl))) (Tn o113 (Tn o177 (Tn o167 (Tn o167 Tl Tl) (Tn o817 Tl Tl)) (Tn o167 (Tn o689 Tl Tl) (Tn o945 Tl Tl))) (Tn o241 (Tn o369 (Tn o625 Tl Tl) (Tn o881 Tl Tl)) (Tn o11 (Tn o753 Tl Tl) Tl))))) (Tn o25 (Tn o41 (Tn o73 (Tn o137 (Tn o265 (Tn o521 Tl Tl) (Tn o777 Tl Tl)) (Tn o11 (Tn o649 Tl Tl) (Tn o905 Tl Tl))) (Tn o201 (Tn o329 (Tn o585 Tl Tl) (Tn o841 Tl Tl)) (Tn o457 (Tn o11 Tl Tl) (Tn o969 Tl Tl)))) (Tn o12 (Tn o169 (Tn o297 (Tn o553 Tl Tl) (Tn o809 Tl Tl)) (Tn o425 (Tn o681 Tl Tl) (Tn o937 Tl Tl))) (Tn o233 (Tn o361 (Tn o617 Tl Tl) (Tn o873 Tl Tl)) (Tn o167 (Tn o745 Tl Tl) Tl)))) (Tn o57 (Tn o89 (Tn o153 (Tn o281 (Tn o537 Tl Tl) (Tn o11 Tl Tl)) (Tn o11 (Tn o665 Tl Tl) (Tn o921 Tl Tl))) (Tn o217 (Tn o345 (Tn o601 Tl Tl) (Tn o857 Tl Tl)) (Tn o473 (Tn o11 Tl Tl) Tl))) (Tn o121 (Tn o167 (Tn o313 (Tn o11 Tl Tl) (Tn o825 Tl Tl)) (Tn o11 (Tn o697 Tl Tl) (Tn o953 Tl Tl))) (Tn o167 (Tn o377 (Tn o633 Tl Tl) (Tn o889_1 Tl Tl)) (Tn o11 (Tn o761 Tl Tl) Tl)))))) (Tn o13 (Tn o21 (Tn o16 (Tn o69 (Tn o11 (Tn o261 (Tn o517 Tl Tl) (Tn o773 Tl Tl)) (Tn o221 (Tn o645 Tl Tl) (Tn o901 Tl Tl))) (Tn o11 (Tn o325 (Tn o11 Tl Tl) (Tn o837 Tl Tl)) (Tn o453 (Tn o709 Tl Tl) (Tn o965 Tl Tl)))) (Tn o101 (Tn o165 (Tn o293 (Tn o549 Tl Tl) (Tn o805 Tl Tl)) (Tn o421 (Tn o11 Tl Tl) (Tn o933 Tl Tl))) (Tn o229 (Tn o357 (Tn o613 Tl Tl) (Tn o869 Tl Tl)) (Tn o485 (Tn o741 Tl Tl) Tl)))) (Tn o53 (Tn o11 (Tn o149 (Tn o167 (Tn o167 Tl Tl) (Tn o789 Tl Tl)) (Tn o11 (Tn o661 Tl Tl) (Tn o917 Tl Tl))) (Tn o213 (Tn o167 (Tn o11 Tl Tl) (Tn o853 Tl Tl)) (Tn o11 (Tn o725 Tl Tl) Tl))) (Tn o117 (Tn o167 (Tn o167 (Tn o565 Tl Tl) (Tn o821 Tl Tl)) (Tn o437 (Tn o693 Tl Tl) (Tn o949 Tl Tl))) (Tn o167 (Tn o373 (Tn o11 Tl Tl) (Tn o885 Tl Tl)) (Tn o11 (Tn o757 Tl Tl) Tl))))) (Tn o29 (Tn o45 (Tn o77 (Tn o16 (Tn o269 (Tn o525 Tl Tl) (Tn o781 Tl Tl)) (Tn o11 (Tn o653 Tl Tl) (Tn o909 Tl Tl))) (Tn o205 (Tn o333 (Tn o167 Tl Tl) (Tn o845 Tl Tl)) (Tn o167 (Tn o717 Tl Tl) (Tn o973 Tl Tl)))) (Tn o109 (Tn o173 (Tn o301 (Tn o557 Tl Tl) (Tn o813 Tl Tl)) (Tn o429 (Tn o685 Tl Tl) (Tn o941 Tl Tl))) (Tn o237 (Tn o365 (Tn o167 Tl Tl) (Tn o877 Tl Tl)) (Tn o493 (Tn o749 Tl Tl) Tl)))) (Tn o61 (Tn o93 (Tn o157 (Tn o11 (Tn o11 Tl Tl) (Tn o728_2 Tl Tl)) (Tn o11 (Tn o167 Tl Tl) (Tn o925 Tl Tl))) (Tn o221 (Tn o349 (Tn o605 Tl Tl) (Tn o861 Tl Tl)) (Tn o477 (Tn o728_2 Tl Tl) Tl))) (Tn o125 (Tn o167 (Tn o11 (Tn o573 Tl Tl) (Tn o829 Tl Tl)) (Tn o445 (Tn o11 Tl Tl) (Tn o957 Tl Tl))) (Tn o253 (Tn o381 (Tn o637 Tl Tl) (Tn o893 Tl Tl)) (Tn o11 (Tn o765 Tl Tl) Tl)))))))) (Tn boot_o_2 (Tn boot_o_4 (Tn boot_o_8 (Tn o16 (Tn o32 (Tn o64 (Tn o128 (Tn o167 (Tn o167 Tl Tl) (Tn o768 Tl Tl)) (Tn o11 (Tn o640 Tl Tl) (Tn o896 Tl Tl))) (Tn o192 (Tn o320 (Tn o11 Tl Tl) (Tn o832 Tl Tl)) (Tn o11 (Tn o704 Tl Tl) (Tn o960 Tl Tl)))) (Tn o11 (Tn o160_4 (Tn o288 (Tn o544 Tl Tl) (Tn o800 Tl Tl)) (Tn o416 (Tn o672 Tl Tl) (Tn o928 Tl Tl))) (Tn o167 (Tn o221 (Tn o608 Tl Tl) (Tn o864 Tl Tl)) (Tn o480 (Tn o736 Tl Tl) Tl)))) (Tn o36 (Tn o80 (Tn o12 (Tn o272 (Tn o528 Tl Tl) (Tn o784 Tl Tl)) (Tn o167 (Tn o656 Tl Tl) (Tn o912 Tl Tl))) (Tn o208 (Tn o336 (Tn o592 Tl Tl) (Tn o848 Tl Tl)) (Tn o464 (Tn o720 Tl Tl) Tl))) (Tn o12 (Tn o176 (Tn o304 (Tn o560 Tl Tl) (Tn o816 Tl Tl)) (Tn o432 (Tn o688 Tl Tl) (Tn o944 Tl Tl))) (Tn o240 (Tn o368 (Tn o624 Tl Tl) (Tn o880 Tl Tl)) (Tn o167 (Tn o752 Tl Tl) Tl))))) (Tn o12 (Tn o12 (Tn o72 (Tn o11 (Tn o264 (Tn o520 Tl Tl) (Tn o776 Tl Tl)) (Tn o167 (Tn o648 Tl Tl) (Tn o904 Tl Tl))) (Tn o200 (Tn o328 (Tn o584 Tl Tl) (Tn o840 Tl Tl)) (Tn o456 (Tn o167 Tl Tl) (Tn o968 Tl Tl)))) (Tn o11 (Tn o11 (Tn o296 (Tn o552 Tl Tl) (Tn o808 Tl Tl)) (Tn o424 (Tn o680 Tl Tl) (Tn o936 Tl Tl))) (Tn o11 (Tn o11 (Tn o616 Tl Tl) (Tn o872 Tl Tl)) (Tn o488 (Tn o744 Tl Tl) Tl)))) (Tn o12 (Tn o88 (Tn o152 (Tn o280 (Tn o536 Tl Tl) (Tn o792 Tl Tl)) (Tn o167 (Tn o664 Tl Tl) (Tn o920 Tl Tl))) (Tn o11 (Tn o344 (Tn o600 Tl Tl) (Tn o856 Tl Tl)) (Tn o472 (Tn o728_2 Tl Tl) Tl))) (Tn o120 (Tn o184 (Tn o312 (Tn o167 Tl Tl) (Tn o824 Tl Tl)) (Tn o167 (Tn o696 Tl Tl) (Tn o952 Tl Tl))) (Tn o248 (Tn o376 (Tn o632 Tl Tl) (Tn o726_1 Tl Tl)) (Tn o167 (Tn o760 Tl Tl) Tl)))))) (Tn o12_2 (Tn o20 (Tn o36 (Tn o16 (Tn o132 (Tn o260 (Tn o516 Tl Tl) (Tn o772 Tl Tl)) (Tn o388 (Tn o644 Tl Tl) (Tn o900 Tl Tl))) (Tn o167 (Tn o11 (Tn o580 Tl Tl) (Tn o836 Tl Tl)) (Tn o452 (Tn o708 Tl Tl) (Tn o964 Tl Tl)))) (Tn o100 (Tn o164 (Tn o292 (Tn o11 Tl Tl) (Tn o804 Tl Tl)) (Tn o420 (Tn o167 Tl Tl) (Tn o932 Tl Tl))) (Tn o228 (Tn o11 (Tn o612 Tl Tl) (Tn o868 Tl Tl)) (Tn o484 (Tn o740 Tl Tl) Tl)))) (Tn o52 (Tn o84 (Tn o148 (Tn o276 (Tn o532 Tl Tl) (Tn o788 Tl Tl)) (Tn o167 (Tn o660 Tl Tl) (Tn o916 Tl Tl))) (Tn o212 (Tn o340 (Tn o167 Tl Tl) (Tn o852 Tl Tl)) (Tn o167 (Tn o11 Tl Tl) Tl))) (Tn o116 (Tn o180 (Tn o308 (Tn o564 Tl Tl) (Tn o820 Tl Tl)) (Tn o436 (Tn o692 Tl Tl) (Tn o948 Tl Tl))) (Tn o244 (Tn o372 (Tn o167 Tl Tl) (Tn o884 Tl Tl)) (Tn o167 (Tn o756 Tl Tl) Tl))))) (Tn o28 (Tn o44 (Tn o12 (Tn o11 (Tn o268 (Tn o524 Tl Tl) (Tn o780 Tl Tl)) (Tn o167 (Tn o652 Tl Tl) (Tn o908 Tl Tl))) (Tn o11 (Tn o332 (Tn o588 Tl Tl) (Tn o844 Tl Tl)) (Tn o460 (Tn o716 Tl Tl) (Tn o11 Tl Tl)))) (Tn o108 (Tn o172 (Tn o300 (Tn o556 Tl Tl) (Tn o812 Tl Tl)) (Tn o428 (Tn o684 Tl Tl) (Tn o940 Tl Tl))) (Tn o236 (Tn o364 (Tn o620 Tl Tl) (Tn o876 Tl Tl)) (Tn o492 (Tn o748 Tl Tl) Tl)))) (Tn o60 (Tn o92 (Tn o156 (Tn o167 (Tn o167 Tl Tl) (Tn o796_1 Tl Tl)) (Tn o167 (Tn o668 Tl Tl) (Tn o924 Tl Tl))) (Tn o220 (Tn o348 (Tn o604 Tl Tl) (Tn o860 Tl Tl)) (Tn o11 (Tn o732_1 Tl Tl) Tl))) (Tn o124 (Tn o188 (Tn o167 (Tn o572 Tl Tl) (Tn o828 Tl Tl)) (Tn o444 (Tn o167 Tl Tl) (Tn o956 Tl Tl))) (Tn o252 (Tn o380 (Tn o636 Tl Tl) (Tn o892 Tl Tl)) (Tn o167 (Tn o764 Tl Tl) Tl))))))) (Tn boot_o_6 (Tn boot_o_10 (Tn o11 (Tn o34 (Tn o66 (Tn o130 (Tn o258 (Tn o514 Tl Tl) (Tn o770 Tl Tl)) (Tn o386 (Tn o167 Tl Tl) (Tn o898 Tl Tl))) (Tn o194 (Tn o322 (Tn o578 Tl Tl) (Tn o834 Tl Tl)) (Tn o450 (Tn o167 Tl Tl) (Tn o962 Tl Tl)))) (Tn o98 (Tn o162 (Tn o11 (Tn o546 Tl Tl) (Tn o802 Tl Tl)) (Tn o11 (Tn o674 Tl Tl) (Tn o930 Tl Tl))) (Tn o226 (Tn o354 (Tn o167 Tl Tl) (Tn o866 Tl Tl)) (Tn o482 (Tn o738 Tl Tl) Tl)))) (Tn o50 (Tn o11 (Tn o146 (Tn o274 (Tn o530 Tl Tl) (Tn o786 Tl Tl)) (Tn o402 (Tn o167 Tl Tl) (Tn o914 Tl Tl))) (Tn o167 (Tn o338 (Tn o594 Tl Tl) (Tn o850 Tl Tl)) (Tn o466 (Tn o722 Tl Tl) Tl))) (Tn o11 (Tn o178 (Tn o11 (Tn o11 Tl Tl) (Tn o818 Tl Tl)) (Tn o11 (Tn o690 Tl Tl) (Tn o946 Tl Tl))) (Tn o242 (Tn o167 (Tn o626 Tl Tl) (Tn o882 Tl Tl)) (Tn o498 (Tn o754 Tl Tl) Tl))))) (Tn o11 (Tn o42 (Tn o74 (Tn o138 (Tn o266 (Tn o522 Tl Tl) (Tn o778 Tl Tl)) (Tn o394 (Tn o167 Tl Tl) (Tn o906 Tl Tl))) (Tn o202 (Tn o167 (Tn o586 Tl Tl) (Tn o842 Tl Tl)) (Tn o458 (Tn o714 Tl Tl) (Tn o970 Tl Tl)))) (Tn o106 (Tn o170 (Tn o167 (Tn o167 Tl Tl) (Tn o810 Tl Tl)) (Tn o167 (Tn o11 Tl Tl) (Tn o938 Tl Tl))) (Tn o234 (Tn o362 (Tn o618 Tl Tl) (Tn o874 Tl Tl)) (Tn o11 (Tn o746 Tl Tl) Tl)))) (Tn o11 (Tn o90 (Tn o154 (Tn o282 (Tn o538 Tl Tl) (Tn o794 Tl Tl)) (Tn o410 (Tn o666 Tl Tl) (Tn o922 Tl Tl))) (Tn o218 (Tn o346 (Tn o11 Tl Tl) (Tn o858 Tl Tl)) (Tn o474 (Tn o730 Tl Tl) Tl))) (Tn o122 (Tn o11 (Tn o314 (Tn o570 Tl Tl) (Tn o826 Tl Tl)) (Tn o442 (Tn o698 Tl Tl) (Tn o954 Tl Tl))) (Tn o11 (Tn o167 (Tn o11 Tl Tl) (Tn o728_2 Tl Tl)) (Tn o506 (Tn o762 Tl Tl) Tl)))))) (Tn o14 (Tn o22 (Tn o38 (Tn o11 (Tn o12 (Tn o11 (Tn o11 Tl Tl) (Tn o774 Tl Tl)) (Tn o390 (Tn o167 Tl Tl) (Tn o902 Tl Tl))) (Tn o198 (Tn o326 (Tn o582 Tl Tl) (Tn o838 Tl Tl)) (Tn o167 (Tn o710 Tl Tl) (Tn o966 Tl Tl)))) (Tn o102 (Tn o166 (Tn o294 (Tn o550 Tl Tl) (Tn o806 Tl Tl)) (Tn o422 (Tn o678 Tl Tl) (Tn o934 Tl Tl))) (Tn o230 (Tn o358 (Tn o167 Tl Tl) (Tn o870 Tl Tl)) (Tn o221 (Tn o742 Tl Tl) Tl)))) (Tn o54 (Tn o86 (Tn o150 (Tn o11 (Tn o11 Tl Tl) (Tn o790 Tl Tl)) (Tn o406 (Tn o167 Tl Tl) (Tn o918 Tl Tl))) (Tn o214 (Tn o11 (Tn o598 Tl Tl) (Tn o854 Tl Tl)) (Tn o470 (Tn o726_1 Tl Tl) Tl))) (Tn o118 (Tn o11 (Tn o11 (Tn o566 Tl Tl) (Tn o822 Tl Tl)) (Tn o438 (Tn o167 Tl Tl) (Tn o950 Tl Tl))) (Tn o11 (Tn o167 (Tn o630 Tl Tl) (Tn o11 Tl Tl)) (Tn o502 (Tn o758 Tl Tl) Tl))))) (Tn o30 (Tn o46 (Tn o11 (Tn o142_5 (Tn o167 (Tn o167 Tl Tl) (Tn o782 Tl Tl)) (Tn o398 (Tn o167 Tl Tl) (Tn o910 Tl Tl))) (Tn o206 (Tn o167 (Tn o11 Tl Tl) (Tn o846 Tl Tl)) (Tn o11 (Tn o167 Tl Tl) Tl))) (Tn o110 (Tn o167 (Tn o302 (Tn o558 Tl Tl) (Tn o814 Tl Tl)) (Tn o430 (Tn o686 Tl Tl) (Tn o942 Tl Tl))) (Tn o167 (Tn o167 (Tn o11 Tl Tl) (Tn o878 Tl Tl)) (Tn o494 (Tn o750 Tl Tl) Tl)))) (Tn o62 (Tn o94 (Tn o158 (Tn o286 (Tn o542 Tl Tl) (Tn o798 Tl Tl)) (Tn o414 (Tn o11 Tl Tl) (Tn o926 Tl Tl))) (Tn o222 (Tn o350 (Tn o606 Tl Tl) (Tn o862 Tl Tl)) (Tn o478 (Tn o734 Tl Tl) Tl))) (Tn o11 (Tn o11 (Tn o318 (Tn o574 Tl Tl) (Tn o830 Tl Tl)) (Tn o446 (Tn o702 Tl Tl) (Tn o958 Tl Tl))) (Tn o254 (Tn o382 (Tn o638 Tl Tl) (Tn o894 Tl Tl)) (Tn o510 (Tn o766 Tl Tl) Tl))))))))
def TC5 (P : Params) : BT := up (TC4c P) [(974, o726 P), (975, o727 P), (976, o727 P)]
def TC5a (P : Params) : BT := up (TC5 P) []
def TC5b (P : Params) : BT := up (TC5a P) [(974, o726_1 P), (975, o975_1 P), (976, o976_1 P), (977, o11 P), (978, o978 P)]
def TC5c (P : Params) : BT := up (TC5b P) [(142, o142_6 P), (976, o728_2 P)]
def TK2 : Pm → BT := Tn boot_o_0 (Tn boot_o_1 (Tn o3_2 (Tn boot_o_7 (Tn o15 (Tn o31 (Tn o63 (Tn o12 (Tn o255 (Tn o511 Tl Tl) (Tn o767 Tl Tl)) (Tn o383 (Tn o164 Tl Tl) (Tn o895 Tl Tl))) (Tn o191 (Tn o319 (Tn o167 Tl Tl) (Tn o831 Tl Tl)) (Tn o167 (Tn o703 Tl Tl) (Tn o959 Tl Tl)))) (Tn o95 (Tn o159 (Tn o287 (Tn o543 Tl Tl) (Tn o799 Tl Tl)) (Tn o415 (Tn o671 Tl Tl) (Tn o927 Tl Tl))) (Tn o223 (Tn o351 (Tn o607 Tl Tl) (Tn o863 Tl Tl)) (Tn o479 (Tn o735 Tl Tl) Tl)))) (Tn o47 (Tn o79 (Tn o11 (Tn o11 (Tn o11 Tl Tl) (Tn o783 Tl Tl)) (Tn o399 (Tn o11 Tl Tl) (Tn o911 Tl Tl))) (Tn o207 (Tn o11 (Tn o591 Tl Tl) (Tn o847 Tl Tl)) (Tn o463 (Tn o11 Tl Tl) (Tn o975_1 Tl Tl)))) (Tn o11 (Tn o11 (Tn o303 (Tn o559 Tl Tl) (Tn o815 Tl Tl)) (Tn o431 (Tn o687 Tl Tl) (Tn o943 Tl Tl))) (Tn o11 (Tn o11 (Tn o623 Tl Tl) (Tn o879 Tl Tl)) (Tn o495 (Tn o751 Tl Tl) Tl))))) (Tn o11 (Tn o11 (Tn o71 (Tn o135 (Tn o263 (Tn o519 Tl Tl) (Tn o775 Tl Tl)) (Tn o391 (Tn o11 Tl Tl) (Tn o903 Tl Tl))) (Tn o199 (Tn o327 (Tn o583 Tl Tl) (Tn o839 Tl Tl)) (Tn o11 (Tn o711 Tl Tl) (Tn o967 Tl Tl)))) (Tn o103 (Tn o167 (Tn o164 (Tn o551 Tl Tl) (Tn o807 Tl Tl)) (Tn o164 (Tn o679 Tl Tl) (Tn o935 Tl Tl))) (Tn o167 (Tn o167 (Tn o11 Tl Tl) (Tn o871 Tl Tl)) (Tn o487 (Tn o743 Tl Tl) Tl)))) (Tn o11 (Tn o87 (Tn o151 (Tn o279 (Tn o535 Tl Tl) (Tn o791 Tl Tl)) (Tn o407 (Tn o11 Tl Tl) (Tn o919 Tl Tl))) (Tn o215 (Tn o343 (Tn o599 Tl Tl) (Tn o855 Tl Tl)) (Tn o471 (Tn o727_1 Tl Tl) (Tn o983 Tl Tl)))) (Tn o119 (Tn o183 (Tn o311 (Tn o567 Tl Tl) (Tn o823 Tl Tl)) (Tn o439 (Tn o11 Tl Tl) (Tn o951 Tl Tl))) (Tn o247 (Tn o11 (Tn o631 Tl Tl) (Tn o887 Tl Tl)) (Tn o503 (Tn o759 Tl Tl) Tl)))))) (Tn o11 (Tn o19 (Tn o35 (Tn o11 (Tn o131 (Tn o259 (Tn o515 Tl Tl) (Tn o771 Tl Tl)) (Tn o387 (Tn o11 Tl Tl) (Tn o899 Tl Tl))) (Tn o195 (Tn o167 (Tn o579 Tl Tl) (Tn o835 Tl Tl)) (Tn o451 (Tn o11 Tl Tl) (Tn o963 Tl Tl)))) (Tn o11 (Tn o163 (Tn o291 (Tn o167 Tl Tl) (Tn o803 Tl Tl)) (Tn o419 (Tn o675 Tl Tl) (Tn o931 Tl Tl))) (Tn o227 (Tn o167 (Tn o11 Tl Tl) (Tn o867 Tl Tl)) (Tn o483 (Tn o739 Tl Tl) Tl)))) (Tn o11 (Tn o12 (Tn o147_2 (Tn o275 (Tn o531 Tl Tl) (Tn o787 Tl Tl)) (Tn o403 (Tn o11 Tl Tl) (Tn o915 Tl Tl))) (Tn o11 (Tn o339 (Tn o595 Tl Tl) (Tn o851 Tl Tl)) (Tn o467 (Tn o723 Tl Tl) (Tn o11 Tl Tl)))) (Tn o115 (Tn o179 (Tn o307 (Tn o563 Tl Tl) (Tn o819 Tl Tl)) (Tn o435 (Tn o691 Tl Tl) (Tn o947 Tl Tl))) (Tn o243 (Tn o11 (Tn o627 Tl Tl) (Tn o883 Tl Tl)) (Tn o499 (Tn o755 Tl Tl) Tl))))) (Tn o27 (Tn o11 (Tn o11 (Tn o139 (Tn o267 (Tn o164 Tl Tl) (Tn o779 Tl Tl)) (Tn o395 (Tn o11 Tl Tl) (Tn o907 Tl Tl))) (Tn o167 (Tn o11 (Tn o587 Tl Tl) (Tn o843 Tl Tl)) (Tn o459 (Tn o715 Tl Tl) (Tn o971 Tl Tl)))) (Tn o11 (Tn o171 (Tn o11 (Tn o11 Tl Tl) (Tn o811 Tl Tl)) (Tn o11 (Tn o683 Tl Tl) (Tn o939 Tl Tl))) (Tn o235 (Tn o363 (Tn o619 Tl Tl) (Tn o875 Tl Tl)) (Tn o491 (Tn o747 Tl Tl) Tl)))) (Tn o59 (Tn o91 (Tn o155 (Tn o283 (Tn o539 Tl Tl) (Tn o726_1 Tl Tl)) (Tn o411 (Tn o667 Tl Tl) (Tn o923 Tl Tl))) (Tn o219 (Tn o11 (Tn o603 Tl Tl) (Tn o859 Tl Tl)) (Tn o167 (Tn o726_1 Tl Tl) Tl))) (Tn o123 (Tn o187 (Tn o315 (Tn o571 Tl Tl) (Tn o827 Tl Tl)) (Tn o443 (Tn o699 Tl Tl) (Tn o955 Tl Tl))) (Tn o251 (Tn o11 (Tn o635 Tl Tl) (Tn o891 Tl Tl)) (Tn o507 (Tn o763 Tl Tl) Tl))))))) (Tn boot_o_5 (Tn boot_o_9 (Tn o17 (Tn o33 (Tn o65 (Tn o11 (Tn o11 (Tn o11 Tl Tl) (Tn o769 Tl Tl)) (Tn o385 (Tn o641 Tl Tl) (Tn o897 Tl Tl))) (Tn o193 (Tn o321 (Tn o577 Tl Tl) (Tn o833 Tl Tl)) (Tn o449 (Tn o705 Tl Tl) (Tn o961 Tl Tl)))) (Tn o16 (Tn o161 (Tn o289 (Tn o545 Tl Tl) (Tn o801 Tl Tl)) (Tn o417 (Tn o673 Tl Tl) (Tn o929 Tl Tl))) (Tn o11 (Tn o353 (Tn o609 Tl Tl) (Tn o865 Tl Tl)) (Tn o11 (Tn o737 Tl Tl) Tl)))) (Tn o16 (Tn o81 (Tn o145 (Tn o273 (Tn o529 Tl Tl) (Tn o785 Tl Tl)) (Tn o11 (Tn o657 Tl Tl) (Tn o913 Tl Tl))) (Tn o209 (Tn o337 (Tn o593 Tl Tl) (Tn o849 Tl Tl)) (Tn o465 (Tn o721 Tl Tl) (Tn o11 Tl Tl)))) (Tn o113 (Tn o177 (Tn o167 (Tn o167 Tl Tl) (Tn o817 Tl Tl)) (Tn o167 (Tn o689 Tl Tl) (Tn o945 Tl Tl))) (Tn o241 (Tn o369 (Tn o625 Tl Tl) (Tn o881 Tl Tl)) (Tn o11 (Tn o753 Tl Tl) Tl))))) (Tn o25 (Tn o41 (Tn o73 (Tn o137 (Tn o265 (Tn o521 Tl Tl) (Tn o777 Tl Tl)) (Tn o11 (Tn o649 Tl Tl) (Tn o905 Tl Tl))) (Tn o201 (Tn o329 (Tn o585 Tl Tl) (Tn o841 Tl Tl)) (Tn o457 (Tn o11 Tl Tl) (Tn o969 Tl Tl)))) (Tn o12 (Tn o169 (Tn o297 (Tn o553 Tl Tl) (Tn o809 Tl Tl)) (Tn o425 (Tn o681 Tl Tl) (Tn o937 Tl Tl))) (Tn o233 (Tn o361 (Tn o617 Tl Tl) (Tn o873 Tl Tl)) (Tn o167 (Tn o745 Tl Tl) Tl)))) (Tn o57 (Tn o89 (Tn o153 (Tn o281 (Tn o537 Tl Tl) (Tn o11 Tl Tl)) (Tn o11 (Tn o665 Tl Tl) (Tn o921 Tl Tl))) (Tn o217 (Tn o345 (Tn o601 Tl Tl) (Tn o857 Tl Tl)) (Tn o473 (Tn o11 Tl Tl) (Tn o985 Tl Tl)))) (Tn o121 (Tn o167 (Tn o313 (Tn o11 Tl Tl) (Tn o825 Tl Tl)) (Tn o11 (Tn o697 Tl Tl) (Tn o953 Tl Tl))) (Tn o167 (Tn o377 (Tn o633 Tl Tl) (Tn o889_1 Tl Tl)) (Tn o11 (Tn o761 Tl Tl) Tl)))))) (Tn o13 (Tn o21 (Tn o16 (Tn o69 (Tn o11 (Tn o261 (Tn o517 Tl Tl) (Tn o773 Tl Tl)) (Tn o221 (Tn o645 Tl Tl) (Tn o901 Tl Tl))) (Tn o11 (Tn o325 (Tn o11 Tl Tl) (Tn o837 Tl Tl)) (Tn o453 (Tn o709 Tl Tl) (Tn o965 Tl Tl)))) (Tn o101 (Tn o165 (Tn o293 (Tn o549 Tl Tl) (Tn o805 Tl Tl)) (Tn o421 (Tn o11 Tl Tl) (Tn o933 Tl Tl))) (Tn o229 (Tn o357 (Tn o613 Tl Tl) (Tn o869 Tl Tl)) (Tn o485 (Tn o741 Tl Tl) Tl)))) (Tn o53 (Tn o11 (Tn o149 (Tn o167 (Tn o167 Tl Tl) (Tn o789 Tl Tl)) (Tn o11 (Tn o661 Tl Tl) (Tn o917 Tl Tl))) (Tn o213 (Tn o167 (Tn o11 Tl Tl) (Tn o853 Tl Tl)) (Tn o11 (Tn o725 Tl Tl) (Tn o981 Tl Tl)))) (Tn o117 (Tn o167 (Tn o167 (Tn o565 Tl Tl) (Tn o821 Tl Tl)) (Tn o437 (Tn o693 Tl Tl) (Tn o949 Tl Tl))) (Tn o167 (Tn o373 (Tn o11 Tl Tl) (Tn o885 Tl Tl)) (Tn o11 (Tn o757 Tl Tl) Tl))))) (Tn o29 (Tn o45 (Tn o77 (Tn o16 (Tn o269 (Tn o525 Tl Tl) (Tn o781 Tl Tl)) (Tn o11 (Tn o653 Tl Tl) (Tn o909 Tl Tl))) (Tn o205 (Tn o333 (Tn o167 Tl Tl) (Tn o845 Tl Tl)) (Tn o167 (Tn o717 Tl Tl) (Tn o973 Tl Tl)))) (Tn o109 (Tn o173 (Tn o301 (Tn o557 Tl Tl) (Tn o813 Tl Tl)) (Tn o429 (Tn o685 Tl Tl) (Tn o941 Tl Tl))) (Tn o237 (Tn o365 (Tn o167 Tl Tl) (Tn o877 Tl Tl)) (Tn o493 (Tn o749 Tl Tl) Tl)))) (Tn o61 (Tn o93 (Tn o157 (Tn o11 (Tn o11 Tl Tl) (Tn o728_2 Tl Tl)) (Tn o11 (Tn o167 Tl Tl) (Tn o925 Tl Tl))) (Tn o221 (Tn o349 (Tn o605 Tl Tl) (Tn o861 Tl Tl)) (Tn o477 (Tn o728_2 Tl Tl) Tl))) (Tn o125 (Tn o167 (Tn o11 (Tn o573 Tl Tl) (Tn o829 Tl Tl)) (Tn o445 (Tn o11 Tl Tl) (Tn o957 Tl Tl))) (Tn o253 (Tn o381 (Tn o637 Tl Tl) (Tn o893 Tl Tl)) (Tn o11 (Tn o765 Tl Tl) Tl)))))))) (Tn boot_o_2 (Tn boot_o_4 (Tn boot_o_8 (Tn o16 (Tn o32 (Tn o64 (Tn o128 (Tn o167 (Tn o167 Tl Tl) (Tn o768 Tl Tl)) (Tn o11 (Tn o640 Tl Tl) (Tn o896 Tl Tl))) (Tn o192 (Tn o320 (Tn o11 Tl Tl) (Tn o832 Tl Tl)) (Tn o11 (Tn o704 Tl Tl) (Tn o960 Tl Tl)))) (Tn o11 (Tn o160_4 (Tn o288 (Tn o544 Tl Tl) (Tn o800 Tl Tl)) (Tn o416 (Tn o672 Tl Tl) (Tn o928 Tl Tl))) (Tn o167 (Tn o221 (Tn o608 Tl Tl) (Tn o864 Tl Tl)) (Tn o480 (Tn o736 Tl Tl) Tl)))) (Tn o36 (Tn o80 (Tn o12 (Tn o272 (Tn o528 Tl Tl) (Tn o784 Tl Tl)) (Tn o167 (Tn o656 Tl Tl) (Tn o912 Tl Tl))) (Tn o208 (Tn o336 (Tn o592 Tl Tl) (Tn o848 Tl Tl)) (Tn o464 (Tn o720 Tl Tl) (Tn o728_2 Tl Tl)))) (Tn o12 (Tn o176 (Tn o304 (Tn o560 Tl Tl) (Tn o816 Tl Tl)) (Tn o432 (Tn o688 Tl Tl) (Tn o944 Tl Tl))) (Tn o240 (Tn o368 (Tn o624 Tl Tl) (Tn o880 Tl Tl)) (Tn o167 (Tn o752 Tl Tl) Tl))))) (Tn o12 (Tn o12 (Tn o72 (Tn o11 (Tn o264 (Tn o520 Tl Tl) (Tn o776 Tl Tl)) (Tn o167 (Tn o648 Tl Tl) (Tn o904 Tl Tl))) (Tn o200 (Tn o328 (Tn o584 Tl Tl) (Tn o840 Tl Tl)) (Tn o456 (Tn o167 Tl Tl) (Tn o968 Tl Tl)))) (Tn o11 (Tn o11 (Tn o296 (Tn o552 Tl Tl) (Tn o808 Tl Tl)) (Tn o424 (Tn o680 Tl Tl) (Tn o936 Tl Tl))) (Tn o11 (Tn o11 (Tn o616 Tl Tl) (Tn o872 Tl Tl)) (Tn o488 (Tn o744 Tl Tl) Tl)))) (Tn o12 (Tn o88 (Tn o152 (Tn o280 (Tn o536 Tl Tl) (Tn o792 Tl Tl)) (Tn o167 (Tn o664 Tl Tl) (Tn o920 Tl Tl))) (Tn o11 (Tn o344 (Tn o600 Tl Tl) (Tn o856 Tl Tl)) (Tn o472 (Tn o728_2 Tl Tl) (Tn o984 Tl Tl)))) (Tn o120 (Tn o184 (Tn o312 (Tn o167 Tl Tl) (Tn o824 Tl Tl)) (Tn o167 (Tn o696 Tl Tl) (Tn o952 Tl Tl))) (Tn o248 (Tn o376 (Tn o632 Tl Tl) (Tn o726_1 Tl Tl)) (Tn o167 (Tn o760 Tl Tl) Tl)))))) (Tn o12_2 (Tn o20 (Tn o36 (Tn o16 (Tn o132 (Tn o260 (Tn o516 Tl Tl) (Tn o772 Tl Tl)) (Tn o388 (Tn o644 Tl Tl) (Tn o900 Tl Tl))) (Tn o167 (Tn o11 (Tn o580 Tl Tl) (Tn o836 Tl Tl)) (Tn o452 (Tn o708 Tl Tl) (Tn o964 Tl Tl)))) (Tn o100 (Tn o164 (Tn o292 (Tn o11 Tl Tl) (Tn o804 Tl Tl)) (Tn o420 (Tn o167 Tl Tl) (Tn o932 Tl Tl))) (Tn o228 (Tn o11 (Tn o612 Tl Tl) (Tn o868 Tl Tl)) (Tn o484 (Tn o740 Tl Tl) Tl)))) (Tn o52 (Tn o84 (Tn o148 (Tn o276 (Tn o532 Tl Tl) (Tn o788 Tl Tl)) (Tn o167 (Tn o660 Tl Tl) (Tn o916 Tl Tl))) (Tn o212 (Tn o340 (Tn o167 Tl Tl) (Tn o852 Tl Tl)) (Tn o167 (Tn o11 Tl Tl) (Tn o980 Tl Tl)))) (Tn o116 (Tn o180 (Tn o308 (Tn o564 Tl Tl) (Tn o820 Tl Tl)) (Tn o436 (Tn o692 Tl Tl) (Tn o948 Tl Tl))) (Tn o244 (Tn o372 (Tn o167 Tl Tl) (Tn o884 Tl Tl)) (Tn o167 (Tn o756 Tl Tl) Tl))))) (Tn o28 (Tn o44 (Tn o12 (Tn o11 (Tn o268 (Tn o524 Tl Tl) (Tn o780 Tl Tl)) (Tn o167 (Tn o652 Tl Tl) (Tn o908 Tl Tl))) (Tn o11 (Tn o332 (Tn o588 Tl Tl) (Tn o844 Tl Tl)) (Tn o460 (Tn o716 Tl Tl) (Tn o11 Tl Tl)))) (Tn o108 (Tn o172 (Tn o300 (Tn o556 Tl Tl) (Tn o812 Tl Tl)) (Tn o428 (Tn o684 Tl Tl) (Tn o940 Tl Tl))) (Tn o236 (Tn o364 (Tn o620 Tl Tl) (Tn o876 Tl Tl)) (Tn o492 (Tn o748 Tl Tl) Tl)))) (Tn o60 (Tn o92 (Tn o156 (Tn o167 (Tn o167 Tl Tl) (Tn o796_1 Tl Tl)) (Tn o167 (Tn o668 Tl Tl) (Tn o924 Tl Tl))) (Tn o220 (Tn o348 (Tn o604 Tl Tl) (Tn o860 Tl Tl)) (Tn o11 (Tn o732_1 Tl Tl) Tl))) (Tn o124 (Tn o188 (Tn o167 (Tn o572 Tl Tl) (Tn o828 Tl Tl)) (Tn o444 (Tn o167 Tl Tl) (Tn o956 Tl Tl))) (Tn o252 (Tn o380 (Tn o636 Tl Tl) (Tn o892 Tl Tl)) (Tn o167 (Tn o764 Tl Tl) Tl))))))) (Tn boot_o_6 (Tn boot_o_10 (Tn o11 (Tn o34 (Tn o66 (Tn o130 (Tn o258 (Tn o514 Tl Tl) (Tn o770 Tl Tl)) (Tn o386 (Tn o167 Tl Tl) (Tn o898 Tl Tl))) (Tn o194 (Tn o322 (Tn o578 Tl Tl) (Tn o834 Tl Tl)) (Tn o450 (Tn o167 Tl Tl) (Tn o962 Tl Tl)))) (Tn o98 (Tn o162 (Tn o11 (Tn o546 Tl Tl) (Tn o802 Tl Tl)) (Tn o11 (Tn o674 Tl Tl) (Tn o930 Tl Tl))) (Tn o226 (Tn o354 (Tn o167 Tl Tl) (Tn o866 Tl Tl)) (Tn o482 (Tn o738 Tl Tl) Tl)))) (Tn o50 (Tn o11 (Tn o146 (Tn o274 (Tn o530 Tl Tl) (Tn o786 Tl Tl)) (Tn o402 (Tn o167 Tl Tl) (Tn o914 Tl Tl))) (Tn o167 (Tn o338 (Tn o594 Tl Tl) (Tn o850 Tl Tl)) (Tn o466 (Tn o722 Tl Tl) (Tn o978 Tl Tl)))) (Tn o11 (Tn o178 (Tn o11 (Tn o11 Tl Tl) (Tn o818 Tl Tl)) (Tn o11 (Tn o690 Tl Tl) (Tn o946 Tl Tl))) (Tn o242 (Tn o167 (Tn o626 Tl Tl) (Tn o882 Tl Tl)) (Tn o498 (Tn o754 Tl Tl) Tl))))) (Tn o11 (Tn o42 (Tn o74 (Tn o138 (Tn o266 (Tn o522 Tl Tl) (Tn o778 Tl Tl)) (Tn o394 (Tn o167 Tl Tl) (Tn o906 Tl Tl))) (Tn o202 (Tn o167 (Tn o586 Tl Tl) (Tn o842 Tl Tl)) (Tn o458 (Tn o714 Tl Tl) (Tn o970 Tl Tl)))) (Tn o106 (Tn o170 (Tn o167 (Tn o167 Tl Tl) (Tn o810 Tl Tl)) (Tn o167 (Tn o11 Tl Tl) (Tn o938 Tl Tl))) (Tn o234 (Tn o362 (Tn o618 Tl Tl) (Tn o874 Tl Tl)) (Tn o11 (Tn o746 Tl Tl) Tl)))) (Tn o11 (Tn o90 (Tn o154 (Tn o282 (Tn o538 Tl Tl) (Tn o794 Tl Tl)) (Tn o410 (Tn o666 Tl Tl) (Tn o922 Tl Tl))) (Tn o218 (Tn o346 (Tn o11 Tl Tl) (Tn o858 Tl Tl)) (Tn o474 (Tn o730 Tl Tl) Tl))) (Tn o122 (Tn o11 (Tn o314 (Tn o570 Tl Tl) (Tn o826 Tl Tl)) (Tn o442 (Tn o698 Tl Tl) (Tn o954 Tl Tl))) (Tn o11 (Tn o167 (Tn o11 Tl Tl) (Tn o728_2 Tl Tl)) (Tn o506 (Tn o762 Tl Tl) Tl)))))) (Tn o14 (Tn o22 (Tn o38 (Tn o11 (Tn o12 (Tn o11 (Tn o11 Tl Tl) (Tn o774 Tl Tl)) (Tn o390 (Tn o167 Tl Tl) (Tn o902 Tl Tl))) (Tn o198 (Tn o326 (Tn o582 Tl Tl) (Tn o838 Tl Tl)) (Tn o167 (Tn o710 Tl Tl) (Tn o966 Tl Tl)))) (Tn o102 (Tn o166 (Tn o294 (Tn o550 Tl Tl) (Tn o806 Tl Tl)) (Tn o422 (Tn o678 Tl Tl) (Tn o934 Tl Tl))) (Tn o230 (Tn o358 (Tn o167 Tl Tl) (Tn o870 Tl Tl)) (Tn o221 (Tn o742 Tl Tl) Tl)))) (Tn o54 (Tn o86 (Tn o150 (Tn o11 (Tn o11 Tl Tl) (Tn o790 Tl Tl)) (Tn o406 (Tn o167 Tl Tl) (Tn o918 Tl Tl))) (Tn o214 (Tn o11 (Tn o598 Tl Tl) (Tn o854 Tl Tl)) (Tn o470 (Tn o726_1 Tl Tl) (Tn o982 Tl Tl)))) (Tn o118 (Tn o11 (Tn o11 (Tn o566 Tl Tl) (Tn o822 Tl Tl)) (Tn o438 (Tn o167 Tl Tl) (Tn o950 Tl Tl))) (Tn o11 (Tn o167 (Tn o630 Tl Tl) (Tn o11 Tl Tl)) (Tn o502 (Tn o758 Tl Tl) Tl))))) (Tn o30 (Tn o46 (Tn o11 (Tn o142_7 (Tn o167 (Tn o167 Tl Tl) (Tn o782 Tl Tl)) (Tn o398 (Tn o167 Tl Tl) (Tn o910 Tl Tl))) (Tn o206 (Tn o167 (Tn o11 Tl Tl) (Tn o846 Tl Tl)) (Tn o11 (Tn o167 Tl Tl) (Tn o726_1 Tl Tl)))) (Tn o110 (Tn o167 (Tn o302 (Tn o558 Tl Tl) (Tn o814 Tl Tl)) (Tn o430 (Tn o686 Tl Tl) (Tn o942 Tl Tl))) (Tn o167 (Tn o167 (Tn o11 Tl Tl) (Tn o878 Tl Tl)) (Tn o494 (Tn o750 Tl Tl) Tl)))) (Tn o62 (Tn o94 (Tn o158 (Tn o286 (Tn o542 Tl Tl) (Tn o798 Tl Tl)) (Tn o414 (Tn o11 Tl Tl) (Tn o926 Tl Tl))) (Tn o222 (Tn o350 (Tn o606 Tl Tl) (Tn o862 Tl Tl)) (Tn o478 (Tn o734 Tl Tl) Tl))) (Tn o11 (Tn o11 (Tn o318 (Tn o574 Tl Tl) (Tn o830 Tl Tl)) (Tn o446 (Tn o702 Tl Tl) (Tn o958 Tl Tl))) (Tn o254 (Tn o382 (Tn o638 Tl Tl) (Tn o894 Tl Tl)) (Tn o510 (Tn o766 Tl Tl) Tl))))))))
def TM (P : Params) : BT := up (TK2 P) [(986, o726 P), (987, o727 P), (988, o727 P)]
def TMa (P : Params) : BT := up (TM P) []
def TMb (P : Params) : BT := up (TMa P) [(986, o726_1 P), (987, o987_1 P), (988, o988_1 P), (989, o11 P), (990, o990 P)]
def TMc (P : Params) : BT := up (TMb P) [(3, o3_3 P), (988, o728_2 P)]
def TZ : Pm → BT := Tn boot_o_0 (Tn boot_o_1 (Tn o3_4 (Tn boot_o_7 (Tn o15 (Tn o31 (Tn o63 (Tn o12 (Tn o255 (Tn o511 (Tn o1023 Tl Tl) Tl) (Tn o767 Tl Tl)) (Tn o383 (Tn o164 (Tn o1151 Tl Tl) Tl) (Tn o895 Tl Tl))) (Tn o191 (Tn o319 (Tn o167 (Tn o1087 Tl Tl) Tl) (Tn o831 Tl Tl)) (Tn o167 (Tn o703 Tl Tl) (Tn o959 Tl Tl)))) (Tn o95 (Tn o159 (Tn o287 (Tn o543 (Tn o1055 Tl Tl) Tl) (Tn o799 Tl Tl)) (Tn o415 (Tn o671 Tl Tl) (Tn o927 Tl Tl))) (Tn o223 (Tn o351 (Tn o607 (Tn o1119 Tl Tl) Tl) (Tn o863 Tl Tl)) (Tn o479 (Tn o735 Tl Tl) (Tn o991 Tl Tl))))) (Tn o47 (Tn o79 (Tn o11 (Tn o11 (Tn o11 (Tn o11 Tl Tl) Tl) (Tn o783 Tl Tl)) (Tn o399 (Tn o11 Tl Tl) (Tn o911 Tl Tl))) (Tn o207 (Tn o11 (Tn o591 (Tn o11 Tl Tl) Tl) (Tn o847 Tl Tl)) (Tn o463 (Tn o11 Tl Tl) (Tn o975_1 Tl Tl)))) (Tn o11 (Tn o11 (Tn o303 (Tn o559 (Tn o1071 Tl Tl) Tl) (Tn o815 Tl Tl)) (Tn o431 (Tn o687 Tl Tl) (Tn o943 Tl Tl))) (Tn o11 (Tn o11 (Tn o623 (Tn o11 Tl Tl) Tl) (Tn o879 Tl Tl)) (Tn o495 (Tn o751 Tl Tl) (Tn o1007 Tl Tl)))))) (Tn o11 (Tn o11 (Tn o71 (Tn o135 (Tn o263 (Tn o519 (Tn o1031 Tl Tl) Tl) (Tn o775 Tl Tl)) (Tn o391 (Tn o11 Tl Tl) (Tn o903 Tl Tl))) (Tn o199 (Tn o327 (Tn o583 (Tn o11 Tl Tl) Tl) (Tn o839 Tl Tl)) (Tn o11 (Tn o711 Tl Tl) (Tn o967 Tl Tl)))) (Tn o103 (Tn o167 (Tn o164 (Tn o551 (Tn o11 Tl Tl) Tl) (Tn o807 Tl Tl)) (Tn o164 (Tn o679 Tl Tl) (Tn o935 Tl Tl))) (Tn o167 (Tn o167 (Tn o11 (Tn o1127 Tl Tl) Tl) (Tn o871 Tl Tl)) (Tn o487 (Tn o743 Tl Tl) (Tn o999 Tl Tl))))) (Tn o11 (Tn o87 (Tn o151 (Tn o279 (Tn o535 (Tn o12 Tl Tl) Tl) (Tn o791 Tl Tl)) (Tn o407 (Tn o11 Tl Tl) (Tn o919 Tl Tl))) (Tn o215 (Tn o343 (Tn o599 (Tn o1111 Tl Tl) Tl) (Tn o855 Tl Tl)) (Tn o471 (Tn o727_1 Tl Tl) (Tn o983 Tl Tl)))) (Tn o119 (Tn o183 (Tn o311 (Tn o567 (Tn o1079 Tl Tl) Tl) (Tn o823 Tl Tl)) (Tn o439 (Tn o11 Tl Tl) (Tn o951 Tl Tl))) (Tn o247 (Tn o11 (Tn o631 (Tn o12 Tl Tl) Tl) (Tn o887 Tl Tl)) (Tn o503 (Tn o759 Tl Tl) (Tn o1015 Tl Tl))))))) (Tn o11 (Tn o19 (Tn o35 (Tn o11 (Tn o131 (Tn o259 (Tn o515 (Tn o1027 Tl Tl) Tl) (Tn o771 Tl Tl)) (Tn o387 (Tn o11 Tl Tl) (Tn o899 Tl Tl))) (Tn o195 (Tn o167 (Tn o579 (Tn o11 Tl Tl) Tl) (Tn o835 Tl Tl)) (Tn o451 (Tn o11 Tl Tl) (Tn o963 Tl Tl)))) (Tn o11 (Tn o163 (Tn o291 (Tn o167 (Tn o1059 Tl Tl) Tl) (Tn o803 Tl Tl)) (Tn o419 (Tn o675 Tl Tl) (Tn o931 Tl Tl))) (Tn o227 (Tn o167 (Tn o11 (Tn o1123 Tl Tl) Tl) (Tn o867 Tl Tl)) (Tn o483 (Tn o739 Tl Tl) (Tn o995 Tl Tl))))) (Tn o11 (Tn o12 (Tn o147_2 (Tn o275 (Tn o531 (Tn o1043 Tl Tl) Tl) (Tn o787 Tl Tl)) (Tn o403 (Tn o11 Tl Tl) (Tn o915 Tl Tl))) (Tn o11 (Tn o339 (Tn o595 (Tn o11 Tl Tl) Tl) (Tn o851 Tl Tl)) (Tn o467 (Tn o723 Tl Tl) (Tn o11 Tl Tl)))) (Tn o115 (Tn o179 (Tn o307 (Tn o563 (Tn o12 Tl Tl) Tl) (Tn o819 Tl Tl)) (Tn o435 (Tn o691 Tl Tl) (Tn o947 Tl Tl))) (Tn o243 (Tn o11 (Tn o627 (Tn o1139 Tl Tl) Tl) (Tn o883 Tl Tl)) (Tn o499 (Tn o755 Tl Tl) (Tn o1011 Tl Tl)))))) (Tn o27 (Tn o11 (Tn o11 (Tn o139 (Tn o267 (Tn o164 (Tn o11 Tl Tl) Tl) (Tn o779 Tl Tl)) (Tn o395 (Tn o11 Tl Tl) (Tn o907 Tl Tl))) (Tn o167 (Tn o11 (Tn o587 (Tn o1099 Tl Tl) Tl) (Tn o843 Tl Tl)) (Tn o459 (Tn o715 Tl Tl) (Tn o971 Tl Tl)))) (Tn o11 (Tn o171 (Tn o11 (Tn o11 (Tn o11 Tl Tl) Tl) (Tn o811 Tl Tl)) (Tn o11 (Tn o683 Tl Tl) (Tn o939 Tl Tl))) (Tn o235 (Tn o363 (Tn o619 (Tn o11 Tl Tl) Tl) (Tn o875 Tl Tl)) (Tn o491 (Tn o747 Tl Tl) (Tn o11 Tl Tl))))) (Tn o59 (Tn o91 (Tn o155 (Tn o283 (Tn o539 (Tn o1051 Tl Tl) Tl) (Tn o726_1 Tl Tl)) (Tn o411 (Tn o667 Tl Tl) (Tn o923 Tl Tl))) (Tn o219 (Tn o11 (Tn o603 (Tn o12 Tl Tl) Tl) (Tn o859 Tl Tl)) (Tn o167 (Tn o726_1 Tl Tl) (Tn o987_1 Tl Tl)))) (Tn o123 (Tn o187 (Tn o315 (Tn o571 (Tn o1083 Tl Tl) Tl) (Tn o827 Tl Tl)) (Tn o443 (Tn o699 Tl Tl) (Tn o955 Tl Tl))) (Tn o251 (Tn o11 (Tn o635 (Tn o11 Tl Tl) Tl) (Tn o891 Tl Tl)) (Tn o507 (Tn o763 Tl Tl) (Tn o12 Tl Tl)))))))) (Tn boot_o_5 (Tn boot_o_9 (Tn o17 (Tn o33 (Tn o65 (Tn o11 (Tn o11 (Tn o11 (Tn o11 Tl Tl) Tl) (Tn o769 Tl Tl)) (Tn o385 (Tn o641 Tl Tl) (Tn o897 Tl Tl))) (Tn o193 (Tn o321 (Tn o577 (Tn o12 Tl Tl) Tl) (Tn o833 Tl Tl)) (Tn o449 (Tn o705 Tl Tl) (Tn o961 Tl Tl)))) (Tn o16 (Tn o161 (Tn o289 (Tn o545 (Tn o1057 Tl Tl) Tl) (Tn o801 Tl Tl)) (Tn o417 (Tn o673 Tl Tl) (Tn o929 Tl Tl))) (Tn o11 (Tn o353 (Tn o609 (Tn o11 Tl Tl) Tl) (Tn o865 Tl Tl)) (Tn o11 (Tn o737 Tl Tl) (Tn o993 Tl Tl))))) (Tn o16 (Tn o81 (Tn o145 (Tn o273 (Tn o529 (Tn o1041 Tl Tl) Tl) (Tn o785 Tl Tl)) (Tn o11 (Tn o657 Tl Tl) (Tn o913 Tl Tl))) (Tn o209 (Tn o337 (Tn o593 (Tn o1105 Tl Tl) Tl) (Tn o849 Tl Tl)) (Tn o465 (Tn o721 Tl Tl) (Tn o11 Tl Tl)))) (Tn o113 (Tn o177 (Tn o167 (Tn o167 (Tn o1073 Tl Tl) Tl) (Tn o817 Tl Tl)) (Tn o167 (Tn o689 Tl Tl) (Tn o945 Tl Tl))) (Tn o241 (Tn o369 (Tn o625 (Tn o1137 Tl Tl) Tl) (Tn o881 Tl Tl)) (Tn o11 (Tn o753 Tl Tl) (Tn o1009 Tl Tl)))))) (Tn o25 (Tn o41 (Tn o73 (Tn o137 (Tn o265 (Tn o521 (Tn o12 Tl Tl) Tl) (Tn o777 Tl Tl)) (Tn o11 (Tn o649 Tl Tl) (Tn o905 Tl Tl))) (Tn o201 (Tn o329 (Tn o585 (Tn o1097 Tl Tl) Tl) (Tn o841 Tl Tl)) (Tn o457 (Tn o11 Tl Tl) (Tn o969 Tl Tl)))) (Tn o12 (Tn o169 (Tn o297 (Tn o553 (Tn o1065 Tl Tl) Tl) (Tn o809 Tl Tl)) (Tn o425 (Tn o681 Tl Tl) (Tn o937 Tl Tl))) (Tn o233 (Tn o361 (Tn o617 (Tn o12 Tl Tl) Tl) (Tn o873 Tl Tl)) (Tn o167 (Tn o745 Tl Tl) (Tn o1001 Tl Tl))))) (Tn o57 (Tn o89 (Tn o153 (Tn o281 (Tn o537 (Tn o11 Tl Tl) Tl) (Tn o11 Tl Tl)) (Tn o11 (Tn o665 Tl Tl) (Tn o921 Tl Tl))) (Tn o217 (Tn o345 (Tn o601 (Tn o1113 Tl Tl) Tl) (Tn o857 Tl Tl)) (Tn o473 (Tn o11 Tl Tl) (Tn o985 Tl Tl)))) (Tn o121 (Tn o167 (Tn o313 (Tn o11 (Tn o11 Tl Tl) Tl) (Tn o825 Tl Tl)) (Tn o11 (Tn o697 Tl Tl) (Tn o953 Tl Tl))) (Tn o167 (Tn o377 (Tn o633 (Tn o1145 Tl Tl) Tl) (Tn o889_1 Tl Tl)) (Tn o11 (Tn o761 Tl Tl) (Tn o1017 Tl Tl))))))) (Tn o13 (Tn o21 (Tn o16 (Tn o69 (Tn o11 (Tn o261 (Tn o517 (Tn o1029 Tl Tl) Tl) (Tn o773 Tl Tl)) (Tn o221 (Tn o645 Tl Tl) (Tn o901 Tl Tl))) (Tn o11 (Tn o325 (Tn o11 (Tn o1093 Tl Tl) Tl) (Tn o837 Tl Tl)) (Tn o453 (Tn o709 Tl Tl) (Tn o965 Tl Tl)))) (Tn o101 (Tn o165 (Tn o293 (Tn o549 (Tn o12 Tl Tl) Tl) (Tn o805 Tl Tl)) (Tn o421 (Tn o11 Tl Tl) (Tn o933 Tl Tl))) (Tn o229 (Tn o357 (Tn o613 (Tn o1125 Tl Tl) Tl) (Tn o869 Tl Tl)) (Tn o485 (Tn o741 Tl Tl) (Tn o997 Tl Tl))))) (Tn o53 (Tn o11 (Tn o149 (Tn o167 (Tn o167 (Tn o1045 Tl Tl) Tl) (Tn o789 Tl Tl)) (Tn o11 (Tn o661 Tl Tl) (Tn o917 Tl Tl))) (Tn o213 (Tn o167 (Tn o11 (Tn o1109 Tl Tl) Tl) (Tn o853 Tl Tl)) (Tn o11 (Tn o725 Tl Tl) (Tn o981 Tl Tl)))) (Tn o117 (Tn o167 (Tn o167 (Tn o565 (Tn o11 Tl Tl) Tl) (Tn o821 Tl Tl)) (Tn o437 (Tn o693 Tl Tl) (Tn o949 Tl Tl))) (Tn o167 (Tn o373 (Tn o11 (Tn o1141 Tl Tl) Tl) (Tn o885 Tl Tl)) (Tn o11 (Tn o757 Tl Tl) (Tn o11 Tl Tl)))))) (Tn o29 (Tn o45 (Tn o77 (Tn o16 (Tn o269 (Tn o525 (Tn o1037 Tl Tl) Tl) (Tn o781 Tl Tl)) (Tn o11 (Tn o653 Tl Tl) (Tn o909 Tl Tl))) (Tn o205 (Tn o333 (Tn o167 (Tn o12 Tl Tl) Tl) (Tn o845 Tl Tl)) (Tn o167 (Tn o717 Tl Tl) (Tn o973 Tl Tl)))) (Tn o109 (Tn o173 (Tn o301 (Tn o557 (Tn o1069 Tl Tl) Tl) (Tn o813 Tl Tl)) (Tn o429 (Tn o685 Tl Tl) (Tn o941 Tl Tl))) (Tn o237 (Tn o365 (Tn o167 (Tn o1133 Tl Tl) Tl) (Tn o877 Tl Tl)) (Tn o493 (Tn o749 Tl Tl) (Tn o1005 Tl Tl))))) (Tn o61 (Tn o93 (Tn o157 (Tn o11 (Tn o11 (Tn o11 Tl Tl) Tl) (Tn o728_2 Tl Tl)) (Tn o11 (Tn o167 Tl Tl) (Tn o925 Tl Tl))) (Tn o221 (Tn o349 (Tn o605 (Tn o11 Tl Tl) Tl) (Tn o861 Tl Tl)) (Tn o477 (Tn o728_2 Tl Tl) (Tn o11 Tl Tl)))) (Tn o125 (Tn o167 (Tn o11 (Tn o573 (Tn o1085 Tl Tl) Tl) (Tn o829 Tl Tl)) (Tn o445 (Tn o11 Tl Tl) (Tn o957 Tl Tl))) (Tn o253 (Tn o381 (Tn o637 (Tn o1149 Tl Tl) Tl) (Tn o893 Tl Tl)) (Tn o11 (Tn o765 Tl Tl) (Tn o11 Tl Tl))))))))) (Tn boot_o_2 (Tn boot_o_4 (Tn boot_o_8 (Tn o16 (Tn o32 (Tn o64 (Tn o128 (Tn o167 (Tn o167 (Tn o1024 Tl Tl) Tl) (Tn o768 Tl Tl)) (Tn o11 (Tn o640 Tl Tl) (Tn o896 Tl Tl))) (Tn o192 (Tn o320 (Tn o11 (Tn o11 Tl Tl) Tl) (Tn o832 Tl Tl)) (Tn o11 (Tn o704 Tl Tl) (Tn o960 Tl Tl)))) (Tn o11 (Tn o160_4 (Tn o288 (Tn o544 (Tn o11 Tl Tl) Tl) (Tn o800 Tl Tl)) (Tn o416 (Tn o672 Tl Tl) (Tn o928 Tl Tl))) (Tn o167 (Tn o221 (Tn o608 (Tn o1120 Tl Tl) Tl) (Tn o864 Tl Tl)) (Tn o480 (Tn o736 Tl Tl) (Tn o992 Tl Tl))))) (Tn o36 (Tn o80 (Tn o12 (Tn o272 (Tn o528 (Tn o12 Tl Tl) Tl) (Tn o784 Tl Tl)) (Tn o167 (Tn o656 Tl Tl) (Tn o912 Tl Tl))) (Tn o208 (Tn o336 (Tn o592 (Tn o1104 Tl Tl) Tl) (Tn o848 Tl Tl)) (Tn o464 (Tn o720 Tl Tl) (Tn o728_2 Tl Tl)))) (Tn o12 (Tn o176 (Tn o304 (Tn o560 (Tn o1072 Tl Tl) Tl) (Tn o816 Tl Tl)) (Tn o432 (Tn o688 Tl Tl) (Tn o944 Tl Tl))) (Tn o240 (Tn o368 (Tn o624 (Tn o12 Tl Tl) Tl) (Tn o880 Tl Tl)) (Tn o167 (Tn o752 Tl Tl) (Tn o1008 Tl Tl)))))) (Tn o12 (Tn o12 (Tn o72 (Tn o11 (Tn o264 (Tn o520 (Tn o11 Tl Tl) Tl) (Tn o776 Tl Tl)) (Tn o167 (Tn o648 Tl Tl) (Tn o904 Tl Tl))) (Tn o200 (Tn o328 (Tn o584 (Tn o12 Tl Tl) Tl) (Tn o840 Tl Tl)) (Tn o456 (Tn o167 Tl Tl) (Tn o968 Tl Tl)))) (Tn o11 (Tn o11 (Tn o296 (Tn o552 (Tn o1064 Tl Tl) Tl) (Tn o808 Tl Tl)) (Tn o424 (Tn o680 Tl Tl) (Tn o936 Tl Tl))) (Tn o11 (Tn o11 (Tn o616 (Tn o11 Tl Tl) Tl) (Tn o872 Tl Tl)) (Tn o488 (Tn o744 Tl Tl) (Tn o1000 Tl Tl))))) (Tn o12 (Tn o88 (Tn o152 (Tn o280 (Tn o536 (Tn o1048 Tl Tl) Tl) (Tn o792 Tl Tl)) (Tn o167 (Tn o664 Tl Tl) (Tn o920 Tl Tl))) (Tn o11 (Tn o344 (Tn o600 (Tn o1112 Tl Tl) Tl) (Tn o856 Tl Tl)) (Tn o472 (Tn o728_2 Tl Tl) (Tn o984 Tl Tl)))) (Tn o120 (Tn o184 (Tn o312 (Tn o167 (Tn o1080 Tl Tl) Tl) (Tn o824 Tl Tl)) (Tn o167 (Tn o696 Tl Tl) (Tn o952 Tl Tl))) (Tn o248 (Tn o376 (Tn o632 (Tn o1144 Tl Tl) Tl) (Tn o726_1 Tl Tl)) (Tn o167 (Tn o760 Tl Tl) (Tn o1016 Tl Tl))))))) (Tn o12_3 (Tn o20 (Tn o36 (Tn o16 (Tn o132 (Tn o260 (Tn o516 (Tn o11 Tl Tl) Tl) (Tn o772 Tl Tl)) (Tn o388 (Tn o644 Tl Tl) (Tn o900 Tl Tl))) (Tn o167 (Tn o11 (Tn o580 (Tn o1092 Tl Tl) Tl) (Tn o836 Tl Tl)) (Tn o452 (Tn o708 Tl Tl) (Tn o964 Tl Tl)))) (Tn o100 (Tn o164 (Tn o292 (Tn o11 (Tn o11 Tl Tl) Tl) (Tn o804 Tl Tl)) (Tn o420 (Tn o167 Tl Tl) (Tn o932 Tl Tl))) (Tn o228 (Tn o11 (Tn o612 (Tn o11 Tl Tl) Tl) (Tn o868 Tl Tl)) (Tn o484 (Tn o740 Tl Tl) (Tn o996 Tl Tl))))) (Tn o52 (Tn o84 (Tn o148 (Tn o276 (Tn o532 (Tn o1044 Tl Tl) Tl) (Tn o788 Tl Tl)) (Tn o167 (Tn o660 Tl Tl) (Tn o916 Tl Tl))) (Tn o212 (Tn o340 (Tn o167 (Tn o12 Tl Tl) Tl) (Tn o852 Tl Tl)) (Tn o167 (Tn o11 Tl Tl) (Tn o980 Tl Tl)))) (Tn o116 (Tn o180 (Tn o308 (Tn o564 (Tn o1076 Tl Tl) Tl) (Tn o820 Tl Tl)) (Tn o436 (Tn o692 Tl Tl) (Tn o948 Tl Tl))) (Tn o244 (Tn o372 (Tn o167 (Tn o1140 Tl Tl) Tl) (Tn o884 Tl Tl)) (Tn o167 (Tn o756 Tl Tl) (Tn o1012 Tl Tl)))))) (Tn o28 (Tn o44 (Tn o12 (Tn o11 (Tn o268 (Tn o524 (Tn o1036 Tl Tl) Tl) (Tn o780 Tl Tl)) (Tn o167 (Tn o652 Tl Tl) (Tn o908 Tl Tl))) (Tn o11 (Tn o332 (Tn o588 (Tn o11 Tl Tl) Tl) (Tn o844 Tl Tl)) (Tn o460 (Tn o716 Tl Tl) (Tn o11 Tl Tl)))) (Tn o108 (Tn o172 (Tn o300 (Tn o556 (Tn o12 Tl Tl) Tl) (Tn o812 Tl Tl)) (Tn o428 (Tn o684 Tl Tl) (Tn o940 Tl Tl))) (Tn o236 (Tn o364 (Tn o620 (Tn o1132 Tl Tl) Tl) (Tn o876 Tl Tl)) (Tn o492 (Tn o748 Tl Tl) (Tn o1004 Tl Tl))))) (Tn o60 (Tn o92 (Tn o156 (Tn o167 (Tn o167 (Tn o1052 Tl Tl) Tl) (Tn o796_1 Tl Tl)) (Tn o167 (Tn o668 Tl Tl) (Tn o924 Tl Tl))) (Tn o220 (Tn o348 (Tn o604 (Tn o1116 Tl Tl) Tl) (Tn o860 Tl Tl)) (Tn o11 (Tn o732_1 Tl Tl) (Tn o728_2 Tl Tl)))) (Tn o124 (Tn o188 (Tn o167 (Tn o572 (Tn o11 Tl Tl) Tl) (Tn o828 Tl Tl)) (Tn o444 (Tn o167 Tl Tl) (Tn o956 Tl Tl))) (Tn o252 (Tn o380 (Tn o636 (Tn o12 Tl Tl) Tl) (Tn o892 Tl Tl)) (Tn o167 (Tn o764 Tl Tl) (Tn o1020 Tl Tl)))))))) (Tn boot_o_6 (Tn boot_o_10 (Tn o11 (Tn o34 (Tn o66 (Tn o130 (Tn o258 (Tn o514 (Tn o12 Tl Tl) Tl) (Tn o770 Tl Tl)) (Tn o386 (Tn o167 Tl Tl) (Tn o898 Tl Tl))) (Tn o194 (Tn o322 (Tn o578 (Tn o1090 Tl Tl) Tl) (Tn o834 Tl Tl)) (Tn o450 (Tn o167 Tl Tl) (Tn o962 Tl Tl)))) (Tn o98 (Tn o162 (Tn o11 (Tn o546 (Tn o1058 Tl Tl) Tl) (Tn o802 Tl Tl)) (Tn o11 (Tn o674 Tl Tl) (Tn o930 Tl Tl))) (Tn o226 (Tn o354 (Tn o167 (Tn o12 Tl Tl) Tl) (Tn o866 Tl Tl)) (Tn o482 (Tn o738 Tl Tl) (Tn o994 Tl Tl))))) (Tn o50 (Tn o11 (Tn o146 (Tn o274 (Tn o530 (Tn o11 Tl Tl) Tl) (Tn o786 Tl Tl)) (Tn o402 (Tn o167 Tl Tl) (Tn o914 Tl Tl))) (Tn o167 (Tn o338 (Tn o594 (Tn o1106 Tl Tl) Tl) (Tn o850 Tl Tl)) (Tn o466 (Tn o722 Tl Tl) (Tn o978 Tl Tl)))) (Tn o11 (Tn o178 (Tn o11 (Tn o11 (Tn o11 Tl Tl) Tl) (Tn o818 Tl Tl)) (Tn o11 (Tn o690 Tl Tl) (Tn o946 Tl Tl))) (Tn o242 (Tn o167 (Tn o626 (Tn o11 Tl Tl) Tl) (Tn o882 Tl Tl)) (Tn o498 (Tn o754 Tl Tl) (Tn o1010 Tl Tl)))))) (Tn o11 (Tn o42 (Tn o74 (Tn o138 (Tn o266 (Tn o522 (Tn o1034 Tl Tl) Tl) (Tn o778 Tl Tl)) (Tn o394 (Tn o167 Tl Tl) (Tn o906 Tl Tl))) (Tn o202 (Tn o167 (Tn o586 (Tn o1098 Tl Tl) Tl) (Tn o842 Tl Tl)) (Tn o458 (Tn o714 Tl Tl) (Tn o970 Tl Tl)))) (Tn o106 (Tn o170 (Tn o167 (Tn o167 (Tn o1066 Tl Tl) Tl) (Tn o810 Tl Tl)) (Tn o167 (Tn o11 Tl Tl) (Tn o938 Tl Tl))) (Tn o234 (Tn o362 (Tn o618 (Tn o1130 Tl Tl) Tl) (Tn o874 Tl Tl)) (Tn o11 (Tn o746 Tl Tl) (Tn o1002 Tl Tl))))) (Tn o11 (Tn o90 (Tn o154 (Tn o282 (Tn o538 (Tn o1050 Tl Tl) Tl) (Tn o794 Tl Tl)) (Tn o410 (Tn o666 Tl Tl) (Tn o922 Tl Tl))) (Tn o218 (Tn o346 (Tn o11 (Tn o11 Tl Tl) Tl) (Tn o858 Tl Tl)) (Tn o474 (Tn o730 Tl Tl) (Tn o726_1 Tl Tl)))) (Tn o122 (Tn o11 (Tn o314 (Tn o570 (Tn o12 Tl Tl) Tl) (Tn o826 Tl Tl)) (Tn o442 (Tn o698 Tl Tl) (Tn o954 Tl Tl))) (Tn o11 (Tn o167 (Tn o11 (Tn o1146 Tl Tl) Tl) (Tn o728_2 Tl Tl)) (Tn o506 (Tn o762 Tl Tl) (Tn o11 Tl Tl))))))) (Tn o14 (Tn o22 (Tn o38 (Tn o11 (Tn o12 (Tn o11 (Tn o11 (Tn o1030 Tl Tl) Tl) (Tn o774 Tl Tl)) (Tn o390 (Tn o167 Tl Tl) (Tn o902 Tl Tl))) (Tn o198 (Tn o326 (Tn o582 (Tn o1094 Tl Tl) Tl) (Tn o838 Tl Tl)) (Tn o167 (Tn o710 Tl Tl) (Tn o966 Tl Tl)))) (Tn o102 (Tn o166 (Tn o294 (Tn o550 (Tn o1062 Tl Tl) Tl) (Tn o806 Tl Tl)) (Tn o422 (Tn o678 Tl Tl) (Tn o934 Tl Tl))) (Tn o230 (Tn o358 (Tn o167 (Tn o1126 Tl Tl) Tl) (Tn o870 Tl Tl)) (Tn o221 (Tn o742 Tl Tl) (Tn o998 Tl Tl))))) (Tn o54 (Tn o86 (Tn o150 (Tn o11 (Tn o11 (Tn o11 Tl Tl) Tl) (Tn o790 Tl Tl)) (Tn o406 (Tn o167 Tl Tl) (Tn o918 Tl Tl))) (Tn o214 (Tn o11 (Tn o598 (Tn o11 Tl Tl) Tl) (Tn o854 Tl Tl)) (Tn o470 (Tn o726_1 Tl Tl) (Tn o982 Tl Tl)))) (Tn o118 (Tn o11 (Tn o11 (Tn o566 (Tn o1078 Tl Tl) Tl) (Tn o822 Tl Tl)) (Tn o438 (Tn o167 Tl Tl) (Tn o950 Tl Tl))) (Tn o11 (Tn o167 (Tn o630 (Tn o11 Tl Tl) Tl) (Tn o11 Tl Tl)) (Tn o502 (Tn o758 Tl Tl) (Tn o12 Tl Tl)))))) (Tn o30 (Tn o46 (Tn o11 (Tn o142_7 (Tn o167 (Tn o167 (Tn o1038 Tl Tl) Tl) (Tn o782 Tl Tl)) (Tn o398 (Tn o167 Tl Tl) (Tn o910 Tl Tl))) (Tn o206 (Tn o167 (Tn o11 (Tn o1102 Tl Tl) Tl) (Tn o846 Tl Tl)) (Tn o11 (Tn o167 Tl Tl) (Tn o726_1 Tl Tl)))) (Tn o110 (Tn o167 (Tn o302 (Tn o558 (Tn o11 Tl Tl) Tl) (Tn o814 Tl Tl)) (Tn o430 (Tn o686 Tl Tl) (Tn o942 Tl Tl))) (Tn o167 (Tn o167 (Tn o11 (Tn o1134 Tl Tl) Tl) (Tn o878 Tl Tl)) (Tn o494 (Tn o750 Tl Tl) (Tn o1006 Tl Tl))))) (Tn o62 (Tn o94 (Tn o158 (Tn o286 (Tn o542 (Tn o12 Tl Tl) Tl) (Tn o798 Tl Tl)) (Tn o414 (Tn o11 Tl Tl) (Tn o926 Tl Tl))) (Tn o222 (Tn o350 (Tn o606 (Tn o1118 Tl Tl) Tl) (Tn o862 Tl Tl)) (Tn o478 (Tn o734 Tl Tl) (Tn o990 Tl Tl)))) (Tn o11 (Tn o11 (Tn o318 (Tn o574 (Tn o1086 Tl Tl) Tl) (Tn o830 Tl Tl)) (Tn o446 (Tn o702 Tl Tl) (Tn o958 Tl Tl))) (Tn o254 (Tn o382 (Tn o638 (Tn o1150 Tl Tl) Tl) (Tn o894 Tl Tl)) (Tn o510 (Tn o766 Tl Tl) (Tn o1022 Tl Tl)))))))))
noncomputable def KK (P : Params) : Frag := [(2, boot_o_2 P), (3, o3_4 P), (15, o15 P), (22, o22 P), (23, o11 P), (25, o25 P), (26, o11 P), (28, o28 P), (29, o29 P), (30, o30 P), (31, o31 P), (32, o32 P), (33, o33 P), (36, o36 P), (43, o11 P), (44, o44 P), (45, o45 P), (48, o36 P), (55, o11 P), (57, o57 P), (58, o11 P), (60, o60 P), (61, o61 P), (62, o62 P), (63, o63 P), (64, o64 P), (74, o74 P), (75, o11 P), (77, o77 P), (78, o11 P), (80, o80 P), (81, o81 P), (82, o11 P), (84, o84 P), (85, o11 P), (87, o87 P), (88, o88 P), (89, o89 P), (90, o90 P), (91, o91 P), (92, o92 P), (93, o93 P), (103, o103 P), (104, o11 P), (106, o106 P), (107, o11 P), (109, o109 P), (110, o110 P), (111, o11 P), (113, o113 P), (114, o11 P), (116, o116 P), (117, o117 P), (118, o118 P), (119, o119 P), (120, o120 P), (121, o121 P), (122, o122 P), (148, o148 P), (149, o149 P), (151, o151 P), (152, o152 P), (154, o154 P), (155, o155 P), (157, o157 P), (158, o158 P), (160, o160_4 P), (170, o170 P), (171, o171 P), (177, o177 P), (178, o178 P), (192, o192 P), (193, o193 P), (199, o199 P), (200, o200 P), (206, o206 P), (207, o207 P), (213, o213 P), (214, o214 P), (227, o227 P), (228, o228 P), (234, o234 P), (235, o235 P), (241, o241 P), (242, o242 P), (252, o252 P), (253, o253 P), (259, o259 P), (260, o260 P), (273, o273 P), (274, o274 P), (280, o280 P), (281, o281 P), (287, o287 P), (288, o288 P), (301, o301 P), (302, o302 P), (312, o312 P), (313, o313 P), (319, o319 P), (320, o320 P), (326, o326 P), (327, o327 P), (337, o337 P), (338, o338 P), (344, o344 P), (345, o345 P), (362, o362 P), (363, o363 P), (381, o381 P), (382, o382 P), (415, o415 P), (416, o416 P), (429, o429 P), (430, o430 P), (436, o436 P), (437, o437 P), (443, o443 P), (444, o444 P), (450, o450 P), (451, o451 P), (457, o457 P), (458, o458 P), (464, o464 P), (465, o465 P), (471, o471 P), (472, o472 P), (478, o478 P), (479, o479 P), (492, o492 P), (493, o493 P), (515, o515 P), (516, o516 P), (529, o529 P), (530, o530 P), (536, o536 P), (537, o537 P), (543, o543 P), (544, o544 P), (550, o550 P), (551, o551 P), (557, o557 P), (558, o558 P), (564, o564 P), (565, o565 P), (571, o571 P), (572, o572 P), (578, o578 P), (579, o579 P), (592, o592 P), (593, o593 P), (599, o599 P), (600, o600 P), (617, o617 P), (618, o618 P), (624, o624 P), (625, o625 P), (631, o631 P), (632, o632 P), (665, o665 P), (666, o666 P), (672, o672 P), (673, o673 P), (679, o679 P), (680, o680 P), (684, o684 P), (685, o685 P), (697, o697 P), (698, o698 P), (703, o703 P), (704, o704 P), (709, o709 P), (710, o710 P), (715, o715 P), (716, o716 P), (721, o721 P), (722, o722 P), (727, o727_1 P), (732, o732_1 P), (796, o796_1 P), (889, o889_1 P), (975, o975_1 P), (979, o11 P), (980, o980 P), (981, o981 P), (982, o982 P), (983, o983 P), (987, o987_1 P), (991, o991 P), (992, o992 P), (993, o993 P), (994, o994 P), (995, o995 P), (996, o996 P), (997, o997 P), (998, o998 P), (999, o999 P), (1000, o1000 P), (1001, o1001 P), (1002, o1002 P), (1003, o11 P), (1004, o1004 P), (1005, o1005 P), (1006, o1006 P), (1007, o1007 P), (1008, o1008 P), (1009, o1009 P), (1010, o1010 P), (1011, o1011 P), (1012, o1012 P), (1013, o11 P), (1016, o1016 P), (1017, o1017 P), (1018, o11 P), (1020, o1020 P), (1021, o11 P), (1023, o1023 P), (1024, o1024 P), (1025, o11 P), (1027, o1027 P), (1028, o11 P), (1030, o1030 P), (1031, o1031 P), (1032, o11 P), (1034, o1034 P), (1035, o11 P), (1037, o1037 P), (1038, o1038 P), (1039, o11 P), (1041, o1041 P), (1042, o11 P), (1044, o1044 P), (1045, o1045 P), (1046, o11 P), (1048, o1048 P), (1049, o11 P), (1051, o1051 P), (1052, o1052 P), (1053, o11 P), (1055, o1055 P), (1056, o11 P), (1058, o1058 P), (1059, o1059 P), (1060, o11 P), (1062, o1062 P), (1063, o11 P), (1065, o1065 P), (1066, o1066 P), (1067, o11 P), (1069, o1069 P), (1070, o11 P), (1072, o1072 P), (1073, o1073 P), (1074, o11 P), (1076, o1076 P), (1077, o11 P), (1079, o1079 P), (1080, o1080 P), (1081, o11 P), (1083, o1083 P), (1084, o11 P), (1086, o1086 P), (1087, o1087 P), (1088, o11 P), (1090, o1090 P), (1091, o11 P), (1093, o1093 P), (1094, o1094 P), (1095, o11 P), (1098, o1098 P), (1099, o1099 P), (1100, o11 P), (1102, o1102 P), (1103, o11 P), (1105, o1105 P), (1106, o1106 P), (1107, o11 P), (1109, o1109 P), (1110, o11 P), (1112, o1112 P), (1113, o1113 P), (1114, o11 P), (1116, o1116 P), (1117, o11 P), (1119, o1119 P), (1120, o1120 P), (1121, o11 P), (1123, o1123 P), (1124, o11 P), (1126, o1126 P), (1127, o1127 P), (1128, o11 P), (1130, o1130 P), (1131, o11 P), (1133, o1133 P), (1134, o1134 P), (1135, o11 P), (1137, o1137 P), (1138, o11 P), (1140, o1140 P), (1141, o1141 P), (1142, o11 P), (1145, o1145 P), (1146, o1146 P), (1147, o11 P), (1150, o1150 P), (1151, o1151 P)]
noncomputable def KA : List Nat := [2, 3, 15, 22, 23, 25, 26, 28, 29, 30, 31, 32, 33, 36, 43, 44, 45, 48, 55, 57, 58, 60, 61, 62, 63, 64, 74, 75, 77, 78, 80, 81, 82, 84, 85, 87, 88, 89, 90, 91, 92, 93, 103, 104, 106, 107, 109, 110, 111, 113, 114, 116, 117, 118, 119, 120, 121, 122, 148, 149, 151, 152, 154, 155, 157, 158, 160, 170, 171, 177, 178, 192, 193, 199, 200, 206, 207, 213, 214, 227, 228, 234, 235, 241, 242, 252, 253, 259, 260, 273, 274, 280, 281, 287, 288, 301, 302, 312, 313, 319, 320, 326, 327, 337, 338, 344, 345, 362, 363, 381, 382, 415, 416, 429, 430, 436, 437, 443, 444, 450, 451, 457, 458, 464, 465, 471, 472, 478, 479, 492, 493, 515, 516, 529, 530, 536, 537, 543, 544, 550, 551, 557, 558, 564, 565, 571, 572, 578, 579, 592, 593, 599, 600, 617, 618, 624, 625, 631, 632, 665, 666, 672, 673, 679, 680, 684, 685, 697, 698, 703, 704, 709, 710, 715, 716, 721, 722, 727, 732, 796, 889, 975, 979, 980, 981, 982, 983, 987, 991, 992, 993, 994, 995, 996, 997, 998, 999, 1000, 1001, 1002, 1003, 1004, 1005, 1006, 1007, 1008, 1009, 1010, 1011, 1012, 1013, 1016, 1017, 1018, 1020, 1021, 1023, 1024, 1025, 1027, 1028, 1030, 1031, 1032, 1034, 1035, 1037, 1038, 1039, 1041, 1042, 1044, 1045, 1046, 1048, 1049, 1051, 1052, 1053, 1055, 1056, 1058, 1059, 1060, 1062, 1063, 1065, 1066, 1067, 1069, 1070, 1072, 1073, 1074, 1076, 1077, 1079, 1080, 1081, 1083, 1084, 1086, 1087, 1088, 1090, 1091, 1093, 1094, 1095, 1098, 1099, 1100, 1102, 1103, 1105, 1106, 1107, 1109, 1110, 1112, 1113, 1114, 1116, 1117, 1119, 1120, 1121, 1123, 1124, 1126, 1127, 1128, 1130, 1131, 1133, 1134, 1135, 1137, 1138, 1140, 1141, 1142, 1145, 1146, 1147, 1150, 1151]
end
noncomputable abbrev tD : Code → Sem Fin := PySem.W.Fast.tw11892475500146522536 PySem.W.Fast.tw14364793385576792824
noncomputable abbrev tE := PySem.W.Fast.tw12563942051412417395
noncomputable def W (b : Bool) (w : World) : World := w.withFollow "special-get-raises" b
noncomputable def bodyAll : List Stmt := behindTheImports pw
noncomputable def stA : List Stmt := bodyAll.take 20
noncomputable def stK : List Stmt := (bodyAll.drop 20).take 1
noncomputable def stM : List Stmt := (bodyAll.drop 21).take 1
noncomputable def stZ : List Stmt := bodyAll.drop 22
noncomputable def env0 : Env := { scope := pw.main.scope, locals := mainNs, globals := mainNs, cells := [], code := .ref 13, frame := some 14 }
noncomputable def c0 : Code := .body bodyAll env0
noncomputable abbrev q0 : Pos := ⟨0, 0, 0, 0⟩
noncomputable def b0 : List (Code × Pos) := [(.builtin "claim.caller" {}, q0)]
noncomputable abbrev ann0 : Option Value := some (.ref 6)
noncomputable def run (W : World) (stop : Code → Bool) (c : Code) (b : List (Code × Pos)) (t : Sem Fin) (pos : Pos) (T : Params → BT) (n tk : Nat) : Res :=
  ev tD ⟨pw, W.params⟩ 11 ann0 stop 100000 c b t pos (T W.params) n tk 0
noncomputable abbrev no : Code → Bool := fun _ => false
noncomputable def sBody : Code → Bool | .body .. => true | _ => false
noncomputable def sCall : Code → Bool | .call (.ref a) _ => Nat.beq a 139 | _ => false
noncomputable def sFunc : Code → Bool | .func .. => true | _ => false
noncomputable def sStart : Code → Bool | .compStart .. => true | _ => false
noncomputable def sLoop : Code → Bool | .compLoop .. => true | _ => false
noncomputable def stmts (l : List Stmt) (env : Env) : Sem Fin := (tE l env).wrap doneF deadEnd id id
noncomputable def bodyK : List Stmt := stBody (astAt 20)
noncomputable def env1 : Env := { scope := fnScope (astAt 20), locals := 142, globals := 3, cells := [], qual := sO "Known.", func := none, code := .ref 145, frame := some 146, builtins := 0 }
noncomputable def c1 : Code := .body bodyK env1
noncomputable abbrev pK : Pos := ⟨73, 0, 79, 79⟩
noncomputable def b1 : List (Code × Pos) := (c0, pK) :: b0
noncomputable def bodyS : List Stmt := fnBody (astAt 19)
noncomputable def env2 : Env := { scope := fnScope (astAt 19), locals := 147, globals := 3, cells := [], qual := sO "shapes.<locals>.", func := some 139, code := .ref 138, frame := some 147, builtins := 0 }
noncomputable def dS : Code := .call (.ref 139) ⟨[], []⟩
noncomputable def c2 : Code := .func bodyS env2
noncomputable abbrev pS : Pos := ⟨74, 13, 74, 21⟩
noncomputable def b2 : List (Code × Pos) := (c1, pS) :: b1
noncomputable def Res.d : Res → Code | .susp d .. => d | .again d .. => d | _ => .call .none {}
noncomputable def Res.gd : Res → Bool | .susp _ gd .. => gd | _ => false
noncomputable def Res.lv : Res → List Value | .susp _ _ lv .. => lv | _ => []
noncomputable def Res.g : Res → PySem.Result → Sem Fin | .susp _ _ _ g .. => g | _ => fun _ => .raise .none
noncomputable def xK (W : World) : Res := run W sBody c0 b0 (stmts stK env0) ⟨55, 0, 72, 16⟩ TA 140 402
noncomputable def xS (W : World) : Res := run W sCall c1 b1 (stmts (bodyK.take 1) env1) pK TK 147 414
theorem e_A (b : Bool) (w : World) : run (W b w) no c0 b0 (stmts stA env0) q0 T0 15 187 = .ok (.ok .next) c0 ⟨55, 0, 72, 16⟩ (TA (W b w).params) 140 402 1396 := by cases b <;> kernel_rfl
theorem e_K (b : Bool) (w : World) : xK (W b w) = .susp c1 (xK (W b w)).gd (xK (W b w)).lv (xK (W b w)).g c0 pK (TK (W b w).params) 147 414 58 := by cases b <;> kernel_rfl
theorem e_S (b : Bool) (w : World) : xS (W b w) = .susp dS (xS (W b w)).gd (xS (W b w)).lv (xS (W b w)).g c1 pS (TS (W b w).params) 147 414 7 := by cases b <;> kernel_rfl
theorem e_F (b : Bool) (w : World) : run (W b w) sFunc dS b2 (tD dS) pS TS 147 414 = .again c2 dS pS (TF (W b w).params) 148 414 5 := by cases b <;> kernel_rfl
theorem e_F0 (b : Bool) (w : World) : run (W b w) no c2 b2 (stmts ((bodyS.drop 0).take 3) env2) pS TF 148 414 = .ok (.ok .next) c2 ⟨58, 4, 58, 59⟩ (TF0 (W b w).params) 264 749 5567 := by cases b <;> kernel_rfl
theorem e_F1 (b : Bool) (w : World) : run (W b w) no c2 b2 (stmts ((bodyS.drop 3).take 3) env2) ⟨58, 4, 58, 59⟩ TF0 264 749 = .ok (.ok .next) c2 ⟨61, 4, 61, 67⟩ (TF1 (W b w).params) 386 1034 5107 := by cases b <;> kernel_rfl
theorem e_F2 (b : Bool) (w : World) : run (W b w) no c2 b2 (stmts ((bodyS.drop 6).take 3) env2) ⟨61, 4, 61, 67⟩ TF1 386 1034 = .ok (.ok .next) c2 ⟨64, 4, 64, 64⟩ (TF2 (W b w).params) 520 1336 5439 := by cases b <;> kernel_rfl
theorem e_F3 (b : Bool) (w : World) : run (W b w) no c2 b2 (stmts ((bodyS.drop 9).take 3) env2) ⟨64, 4, 64, 64⟩ TF2 520 1336 = .ok (.ok .next) c2 ⟨67, 4, 67, 64⟩ (TF3 (W b w).params) 636 1639 5288 := by cases b <;> kernel_rfl
theorem e_F4 (b : Bool) (w : World) : run (W b w) no c2 b2 (stmts ((bodyS.drop 12).take 3) env2) ⟨67, 4, 67, 64⟩ TF3 636 1639 = .ok (.ok .next) c2 ⟨70, 24, 70, 97⟩ (TF4 (W b w).params) 726 1875 3773 := by cases b <;> kernel_rfl
theorem e_F5 (b : Bool) (w : World) : run (W b w) no c2 b2 (stmts (bodyS.drop 15) env2) ⟨70, 24, 70, 97⟩ TF4 726 1875 = .ok (.ok (.ret (.ref 160))) c2 ⟨72, 11, 72, 16⟩ (TF5 (W b w).params) 726 1875 3 := by cases b <;> kernel_rfl
theorem e_S2 (b : Bool) (w : World) : run (W b w) no c1 b1 ((xS (W b w)).g (.ok (.ret (.ref 160)))) pS TF5 726 1875 = .ok (.ok .next) c1 ⟨74, 4, 74, 10⟩ (TS2 (W b w).params) 726 1876 9 := by cases b <;> kernel_rfl
noncomputable def loopOf : Code → Code | .compStart e k it acc env => .compLoop e k it acc env | d => d
noncomputable def xC1 (W : World) : Res := run W sStart c1 b1 (stmts ((bodyK.drop 1).take 1) env1) ⟨74, 4, 74, 10⟩ TS2 726 1876
theorem e_C1 (b : Bool) (w : World) : xC1 (W b w) = .susp (xC1 (W b w)).d (xC1 (W b w)).gd (xC1 (W b w)).lv (xC1 (W b w)).g c1 ⟨75, 46, 75, 52⟩ (TC1 (W b w).params) 729 1876 16 := by cases b <;> kernel_rfl
noncomputable def bC1 : List (Code × Pos) := (c1, ⟨75, 46, 75, 52⟩) :: b1
theorem e_C1a (b : Bool) (w : World) : (let V := W b (w.withFollow "comprehension-iter-twice" false); run V sLoop (xC1 V).d bC1 (tD (xC1 V).d) ⟨75, 46, 75, 52⟩ TC1 729 1876 = .again (loopOf (xC1 V).d) (xC1 V).d ⟨75, 46, 75, 52⟩ (TC1a V.params) 729 1876 11) ∧ (let V := W b (w.withFollow "comprehension-iter-twice" true); run V sLoop (xC1 V).d bC1 (tD (xC1 V).d) ⟨75, 46, 75, 52⟩ TC1 729 1876 = .again (loopOf (xC1 V).d) (xC1 V).d ⟨75, 46, 75, 52⟩ (TC1a V.params) 729 1876 1) := by cases b <;> exact ⟨by intro V; kernel_rfl, by intro V; kernel_rfl⟩
theorem e_C1b (b : Bool) (w : World) : run (W b w) no (loopOf (xC1 (W b w)).d) bC1 (tD (loopOf (xC1 (W b w)).d)) ⟨75, 46, 75, 52⟩ TC1a 729 1876 = .ok (.ok .next) (loopOf (xC1 (W b w)).d) ⟨75, 46, 75, 52⟩ (TC1b (W b w).params) 731 2053 3143 := by cases b <;> kernel_rfl
theorem e_C1c (b : Bool) (w : World) : run (W b w) no c1 b1 ((xC1 (W b w)).g (.ok .next)) ⟨75, 46, 75, 52⟩ TC1b 731 2053 = .ok (.ok .next) c1 ⟨75, 4, 75, 11⟩ (TC1c (W b w).params) 731 2054 13 := by cases b <;> kernel_rfl
noncomputable def xC2 (W : World) : Res := run W sStart c1 b1 (stmts ((bodyK.drop 2).take 1) env1) ⟨75, 4, 75, 11⟩ TC1c 731 2054
theorem e_C2 (b : Bool) (w : World) : xC2 (W b w) = .susp (xC2 (W b w)).d (xC2 (W b w)).gd (xC2 (W b w)).lv (xC2 (W b w)).g c1 ⟨76, 50, 76, 56⟩ (TC2 (W b w).params) 734 2054 16 := by cases b <;> kernel_rfl
noncomputable def bC2 : List (Code × Pos) := (c1, ⟨76, 50, 76, 56⟩) :: b1
theorem e_C2a (b : Bool) (w : World) : (let V := W b (w.withFollow "comprehension-iter-twice" false); run V sLoop (xC2 V).d bC2 (tD (xC2 V).d) ⟨76, 50, 76, 56⟩ TC2 734 2054 = .again (loopOf (xC2 V).d) (xC2 V).d ⟨76, 50, 76, 56⟩ (TC2a V.params) 734 2054 11) ∧ (let V := W b (w.withFollow "comprehension-iter-twice" true); run V sLoop (xC2 V).d bC2 (tD (xC2 V).d) ⟨76, 50, 76, 56⟩ TC2 734 2054 = .again (loopOf (xC2 V).d) (xC2 V).d ⟨76, 50, 76, 56⟩ (TC2a V.params) 734 2054 1) := by cases b <;> exact ⟨by intro V; kernel_rfl, by intro V; kernel_rfl⟩
theorem e_C2b (b : Bool) (w : World) : run (W b w) no (loopOf (xC2 (W b w)).d) bC2 (tD (loopOf (xC2 (W b w)).d)) ⟨76, 50, 76, 56⟩ TC2a 734 2054 = .ok (.ok .next) (loopOf (xC2 (W b w)).d) ⟨76, 50, 76, 56⟩ (TC2b (W b w).params) 795 2296 3526 := by cases b <;> kernel_rfl
theorem e_C2c (b : Bool) (w : World) : run (W b w) no c1 b1 ((xC2 (W b w)).g (.ok .next)) ⟨76, 50, 76, 56⟩ TC2b 795 2296 = .ok (.ok .next) c1 ⟨76, 4, 76, 13⟩ (TC2c (W b w).params) 795 2297 13 := by cases b <;> kernel_rfl
noncomputable def xC3 (W : World) : Res := run W sStart c1 b1 (stmts ((bodyK.drop 3).take 1) env1) ⟨76, 4, 76, 13⟩ TC2c 795 2297
theorem e_C3 (b : Bool) (w : World) : xC3 (W b w) = .susp (xC3 (W b w)).d (xC3 (W b w)).gd (xC3 (W b w)).lv (xC3 (W b w)).g c1 ⟨77, 50, 77, 56⟩ (TC3 (W b w).params) 798 2297 16 := by cases b <;> kernel_rfl
noncomputable def bC3 : List (Code × Pos) := (c1, ⟨77, 50, 77, 56⟩) :: b1
theorem e_C3a (b : Bool) (w : World) : (let V := W b (w.withFollow "comprehension-iter-twice" false); run V sLoop (xC3 V).d bC3 (tD (xC3 V).d) ⟨77, 50, 77, 56⟩ TC3 798 2297 = .again (loopOf (xC3 V).d) (xC3 V).d ⟨77, 50, 77, 56⟩ (TC3a V.params) 798 2297 11) ∧ (let V := W b (w.withFollow "comprehension-iter-twice" true); run V sLoop (xC3 V).d bC3 (tD (xC3 V).d) ⟨77, 50, 77, 56⟩ TC3 798 2297 = .again (loopOf (xC3 V).d) (xC3 V).d ⟨77, 50, 77, 56⟩ (TC3a V.params) 798 2297 1) := by cases b <;> exact ⟨by intro V; kernel_rfl, by intro V; kernel_rfl⟩
theorem e_C3b (b : Bool) (w : World) : run (W b w) no (loopOf (xC3 (W b w)).d) bC3 (tD (loopOf (xC3 (W b w)).d)) ⟨77, 50, 77, 56⟩ TC3a 798 2297 = .ok (.ok .next) (loopOf (xC3 (W b w)).d) ⟨77, 50, 77, 56⟩ (TC3b (W b w).params) 888 3088 7977 := by cases b <;> kernel_rfl
theorem e_C3c (b : Bool) (w : World) : run (W b w) no c1 b1 ((xC3 (W b w)).g (.ok .next)) ⟨77, 50, 77, 56⟩ TC3b 888 3088 = .ok (.ok .next) c1 ⟨77, 4, 77, 12⟩ (TC3c (W b w).params) 888 3089 13 := by cases b <;> kernel_rfl
noncomputable def xC4 (W : World) : Res := run W sStart c1 b1 (stmts ((bodyK.drop 4).take 1) env1) ⟨77, 4, 77, 12⟩ TC3c 888 3089
theorem e_C4 (b : Bool) (w : World) : xC4 (W b w) = .susp (xC4 (W b w)).d (xC4 (W b w)).gd (xC4 (W b w)).lv (xC4 (W b w)).g c1 ⟨78, 52, 78, 58⟩ (TC4 (W b w).params) 891 3089 16 := by cases b <;> kernel_rfl
noncomputable def bC4 : List (Code × Pos) := (c1, ⟨78, 52, 78, 58⟩) :: b1
theorem e_C4a (b : Bool) (w : World) : (let V := W b (w.withFollow "comprehension-iter-twice" false); run V sLoop (xC4 V).d bC4 (tD (xC4 V).d) ⟨78, 52, 78, 58⟩ TC4 891 3089 = .again (loopOf (xC4 V).d) (xC4 V).d ⟨78, 52, 78, 58⟩ (TC4a V.params) 891 3089 11) ∧ (let V := W b (w.withFollow "comprehension-iter-twice" true); run V sLoop (xC4 V).d bC4 (tD (xC4 V).d) ⟨78, 52, 78, 58⟩ TC4 891 3089 = .again (loopOf (xC4 V).d) (xC4 V).d ⟨78, 52, 78, 58⟩ (TC4a V.params) 891 3089 1) := by cases b <;> exact ⟨by intro V; kernel_rfl, by intro V; kernel_rfl⟩
theorem e_C4b (b : Bool) (w : World) : run (W b w) no (loopOf (xC4 (W b w)).d) bC4 (tD (loopOf (xC4 (W b w)).d)) ⟨78, 52, 78, 58⟩ TC4a 891 3089 = .ok (.ok .next) (loopOf (xC4 (W b w)).d) ⟨78, 52, 78, 58⟩ (TC4b (W b w).params) 974 3626 6407 := by cases b <;> kernel_rfl
theorem e_C4c (b : Bool) (w : World) : run (W b w) no c1 b1 ((xC4 (W b w)).g (.ok .next)) ⟨78, 52, 78, 58⟩ TC4b 974 3626 = .ok (.ok .next) c1 ⟨78, 4, 78, 14⟩ (TC4c (W b w).params) 974 3627 13 := by cases b <;> kernel_rfl
noncomputable def xC5 (W : World) : Res := run W sStart c1 b1 (stmts ((bodyK.drop 5).take 1) env1) ⟨78, 4, 78, 14⟩ TC4c 974 3627
theorem e_C5 (b : Bool) (w : World) : xC5 (W b w) = .susp (xC5 (W b w)).d (xC5 (W b w)).gd (xC5 (W b w)).lv (xC5 (W b w)).g c1 ⟨79, 46, 79, 52⟩ (TC5 (W b w).params) 977 3627 16 := by cases b <;> kernel_rfl
noncomputable def bC5 : List (Code × Pos) := (c1, ⟨79, 46, 79, 52⟩) :: b1
theorem e_C5a (b : Bool) (w : World) : (let V := W b (w.withFollow "comprehension-iter-twice" false); run V sLoop (xC5 V).d bC5 (tD (xC5 V).d) ⟨79, 46, 79, 52⟩ TC5 977 3627 = .again (loopOf (xC5 V).d) (xC5 V).d ⟨79, 46, 79, 52⟩ (TC5a V.params) 977 3627 11) ∧ (let V := W b (w.withFollow "comprehension-iter-twice" true); run V sLoop (xC5 V).d bC5 (tD (xC5 V).d) ⟨79, 46, 79, 52⟩ TC5 977 3627 = .again (loopOf (xC5 V).d) (xC5 V).d ⟨79, 46, 79, 52⟩ (TC5a V.params) 977 3627 1) := by cases b <;> exact ⟨by intro V; kernel_rfl, by intro V; kernel_rfl⟩
theorem e_C5b (b : Bool) (w : World) : run (W b w) no (loopOf (xC5 (W b w)).d) bC5 (tD (loopOf (xC5 (W b w)).d)) ⟨79, 46, 79, 52⟩ TC5a 977 3627 = .ok (.ok .next) (loopOf (xC5 (W b w)).d) ⟨79, 46, 79, 52⟩ (TC5b (W b w).params) 979 3814 2772 := by cases b <;> kernel_rfl
theorem e_C5c (b : Bool) (w : World) : run (W b w) no c1 b1 ((xC5 (W b w)).g (.ok .next)) ⟨79, 46, 79, 52⟩ TC5b 979 3814 = .ok (.ok .next) c1 ⟨79, 4, 79, 9⟩ (TC5c (W b w).params) 979 3815 13 := by cases b <;> kernel_rfl
theorem e_K2 (b : Bool) (w : World) : run (W b w) no c0 b0 ((xK (W b w)).g (.ok .next)) pK TC5c 979 3815 = .ok (.ok .next) c0 ⟨73, 0, 79, 79⟩ (TK2 (W b w).params) 986 3823 135 := by cases b <;> kernel_rfl
noncomputable def xM (W : World) : Res := run W sStart c0 b0 (stmts stM env0) ⟨73, 0, 79, 79⟩ TK2 986 3823
theorem e_M (b : Bool) (w : World) : xM (W b w) = .susp (xM (W b w)).d (xM (W b w)).gd (xM (W b w)).lv (xM (W b w)).g c0 ⟨80, 47, 80, 59⟩ (TM (W b w).params) 989 3824 29 := by cases b <;> kernel_rfl
noncomputable def bM : List (Code × Pos) := (c0, ⟨80, 47, 80, 59⟩) :: b0
theorem e_Ma (b : Bool) (w : World) : (let V := W b (w.withFollow "comprehension-iter-twice" false); run V sLoop (xM V).d bM (tD (xM V).d) ⟨80, 47, 80, 59⟩ TM 989 3824 = .again (loopOf (xM V).d) (xM V).d ⟨80, 47, 80, 59⟩ (TMa V.params) 989 3824 11) ∧ (let V := W b (w.withFollow "comprehension-iter-twice" true); run V sLoop (xM V).d bM (tD (xM V).d) ⟨80, 47, 80, 59⟩ TM 989 3824 = .again (loopOf (xM V).d) (xM V).d ⟨80, 47, 80, 59⟩ (TMa V.params) 989 3824 1) := by cases b <;> exact ⟨by intro V; kernel_rfl, by intro V; kernel_rfl⟩
theorem e_Mb (b : Bool) (w : World) : run (W b w) no (loopOf (xM (W b w)).d) bM (tD (loopOf (xM (W b w)).d)) ⟨80, 47, 80, 59⟩ TMa 989 3824 = .ok (.ok .next) (loopOf (xM (W b w)).d) ⟨80, 47, 80, 59⟩ (TMb (W b w).params) 991 4060 4146 := by cases b <;> kernel_rfl
theorem e_Mc (b : Bool) (w : World) : run (W b w) no c0 b0 ((xM (W b w)).g (.ok .next)) ⟨80, 47, 80, 59⟩ TMb 991 4060 = .ok (.ok .next) c0 ⟨80, 0, 80, 7⟩ (TMc (W b w).params) 991 4061 12 := by cases b <;> kernel_rfl
theorem e_Z (b : Bool) (w : World) : run (W b w) no c0 b0 (stmts stZ env0) ⟨80, 0, 80, 7⟩ TMc 991 4061 = .ok (.ok .next) c0 ⟨268, 0, 283, 15⟩ (TZ (W b w).params) 1152 4362 1076 := by cases b <;> kernel_rfl
theorem den_eq : denote treeTable = tD := by rw [PySem.W.Fast.te11892475500146522536, PySem.W.Fast.te14364793385576792824]
theorem execs_eq (l : List Stmt) (env : Env) : stmts l env = (execs l env).wrap doneF deadEnd id id := by unfold stmts tE; rw [PySem.W.Fast.te12563942051412417395]
section
variable {V : World} {stop : Code → Bool} {c c' : Code} {b : List (Code × Pos)} {pos pos' : Pos} {T : Params → BT} {T' : BT} {n n' tk tk' : Nat}
theorem go_run {l : List Stmt} {env : Env} {fl : Flow} {d : Nat} (h : run V stop c b (stmts l env) pos T n tk = .ok (.ok fl) c' pos' T' n' tk' d) :
    Go pw V 11 ann0 (execs l env) b c pos (T V.params) n tk fl c' pos' T' n' tk' d := by
  unfold run at h
  rw [← den_eq, execs_eq] at h
  exact go_of_ev h
theorem goC_run {d : Code} {p₁ : Pos} {r : PySem.Result} {e : Nat} (h : run V stop d b (tD d) p₁ T n tk = .ok r c' pos' T' n' tk' e) : GoC pw V 11 ann0 d b p₁ (T V.params) n tk r T' n' tk' e := by
  unfold run at h
  rw [← den_eq] at h
  exact goC_of_ev h
theorem goC_again {d d₂ c₂ : Code} {p₁ p₂ : Pos} {T₂ : BT} {n₂ tk₂ k₂ : Nat} {r : PySem.Result} {e : Nat} (h : run V stop d b (tD d) p₁ T n tk = .again d₂ c₂ p₂ T₂ n₂ tk₂ k₂)
    (G : GoC pw V 11 ann0 d₂ b p₂ T₂ n₂ tk₂ r T' n' tk' e) : GoC pw V 11 ann0 d b p₁ (T V.params) n tk r T' n' tk' (k₂ + 1 + e) := by
  unfold run at h
  rw [← den_eq] at h
  exact goC_of_again h G
theorem go_callR {stop' : Code → Bool} {l : List Stmt} {env : Env} {d : Code} {gd : Bool} {lv : List Value} {g : PySem.Result → Sem Fin} {c₁ : Code} {p₁ : Pos} {T₁ : BT} {T₂ : Params → BT} {n₁ tk₁ k₁ n₂ tk₂ e k₂ : Nat} {r : PySem.Result} {fl : Flow}
    (h : run V stop c b (stmts l env) pos T n tk = .susp d gd lv g c₁ p₁ T₁ n₁ tk₁ k₁) (G : GoC pw V 11 ann0 d ((c₁, p₁) :: b) p₁ T₁ n₁ tk₁ r (T₂ V.params) n₂ tk₂ e)
    (h' : run V stop' c₁ b (g r) p₁ T₂ n₂ tk₂ = .ok (.ok fl) c' pos' T' n' tk' k₂) : Go pw V 11 ann0 (execs l env) b c pos (T V.params) n tk fl c' pos' T' n' tk' (k₁ + 1 + e + 1 + k₂) := by
  unfold run at h h'
  rw [← den_eq, execs_eq] at h
  rw [← den_eq] at h'
  exact go_call h G h'
end
theorem cut1 (l : List Stmt) (i k : Nat) : l.drop i = (l.drop i).take k ++ l.drop (i + k) := by
  rw [← List.drop_drop, List.take_append_drop]
theorem g_shapes (b : Bool) (w : World) : ∃ e, e ≤ 26000 ∧ GoC pw (W b w) 11 ann0 dS b2 pS (TS (W b w).params) 147 414 (.ok (.ret (.ref 160))) (TF5 (W b w).params) 726 1875 e := by
  have g5 := go_run (e_F5 b w)
  have g4 := go_app (go_run (e_F4 b w)) g5
  rw [← cut1 bodyS 12 3] at g4
  have g3 := go_app (go_run (e_F3 b w)) g4
  rw [← cut1 bodyS 9 3] at g3
  have g2 := go_app (go_run (e_F2 b w)) g3
  rw [← cut1 bodyS 6 3] at g2
  have g1 := go_app (go_run (e_F1 b w)) g2
  rw [← cut1 bodyS 3 3] at g1
  have g0 := go_app (go_run (e_F0 b w)) g1
  rw [← cut1 bodyS 0 3, List.drop_zero] at g0
  exact ⟨_, by decide, goC_again (e_F b w) (goC_func g0)⟩
theorem g_C1 (b : Bool) (w : World) : ∃ e, e ≤ 3163 ∧ GoC pw (W b w) 11 ann0 (xC1 (W b w)).d bC1 ⟨75, 46, 75, 52⟩ (TC1 (W b w).params) 729 1876 (.ok .next) (TC1b (W b w).params) 731 2053 e :=
  byRow2 "comprehension-iter-twice" (P := fun w => ∃ e, e ≤ 3163 ∧ GoC pw (W b w) 11 ann0 (xC1 (W b w)).d bC1 ⟨75, 46, 75, 52⟩ (TC1 (W b w).params) 729 1876 (.ok .next) (TC1b (W b w).params) 731 2053 e)
    (fun w => ⟨_, by decide, goC_again (e_C1a b w).1 (goC_run (e_C1b b _))⟩) (fun w => ⟨_, by decide, goC_again (e_C1a b w).2 (goC_run (e_C1b b _))⟩) w
theorem g_C2 (b : Bool) (w : World) : ∃ e, e ≤ 3546 ∧ GoC pw (W b w) 11 ann0 (xC2 (W b w)).d bC2 ⟨76, 50, 76, 56⟩ (TC2 (W b w).params) 734 2054 (.ok .next) (TC2b (W b w).params) 795 2296 e :=
  byRow2 "comprehension-iter-twice" (P := fun w => ∃ e, e ≤ 3546 ∧ GoC pw (W b w) 11 ann0 (xC2 (W b w)).d bC2 ⟨76, 50, 76, 56⟩ (TC2 (W b w).params) 734 2054 (.ok .next) (TC2b (W b w).params) 795 2296 e)
    (fun w => ⟨_, by decide, goC_again (e_C2a b w).1 (goC_run (e_C2b b _))⟩) (fun w => ⟨_, by decide, goC_again (e_C2a b w).2 (goC_run (e_C2b b _))⟩) w
theorem g_C3 (b : Bool) (w : World) : ∃ e, e ≤ 7997 ∧ GoC pw (W b w) 11 ann0 (xC3 (W b w)).d bC3 ⟨77, 50, 77, 56⟩ (TC3 (W b w).params) 798 2297 (.ok .next) (TC3b (W b w).params) 888 3088 e :=
  byRow2 "comprehension-iter-twice" (P := fun w => ∃ e, e ≤ 7997 ∧ GoC pw (W b w) 11 ann0 (xC3 (W b w)).d bC3 ⟨77, 50, 77, 56⟩ (TC3 (W b w).params) 798 2297 (.ok .next) (TC3b (W b w).params) 888 3088 e)
    (fun w => ⟨_, by decide, goC_again (e_C3a b w).1 (goC_run (e_C3b b _))⟩) (fun w => ⟨_, by decide, goC_again (e_C3a b w).2 (goC_run (e_C3b b _))⟩) w
theorem g_C4 (b : Bool) (w : World) : ∃ e, e ≤ 6427 ∧ GoC pw (W b w) 11 ann0 (xC4 (W b w)).d bC4 ⟨78, 52, 78, 58⟩ (TC4 (W b w).params) 891 3089 (.ok .next) (TC4b (W b w).params) 974 3626 e :=
  byRow2 "comprehension-iter-twice" (P := fun w => ∃ e, e ≤ 6427 ∧ GoC pw (W b w) 11 ann0 (xC4 (W b w)).d bC4 ⟨78, 52, 78, 58⟩ (TC4 (W b w).params) 891 3089 (.ok .next) (TC4b (W b w).params) 974 3626 e)
    (fun w => ⟨_, by decide, goC_again (e_C4a b w).1 (goC_run (e_C4b b _))⟩) (fun w => ⟨_, by decide, goC_again (e_C4a b w).2 (goC_run (e_C4b b _))⟩) w
theorem g_C5 (b : Bool) (w : World) : ∃ e, e ≤ 2792 ∧ GoC pw (W b w) 11 ann0 (xC5 (W b w)).d bC5 ⟨79, 46, 79, 52⟩ (TC5 (W b w).params) 977 3627 (.ok .next) (TC5b (W b w).params) 979 3814 e :=
  byRow2 "comprehension-iter-twice" (P := fun w => ∃ e, e ≤ 2792 ∧ GoC pw (W b w) 11 ann0 (xC5 (W b w)).d bC5 ⟨79, 46, 79, 52⟩ (TC5 (W b w).params) 977 3627 (.ok .next) (TC5b (W b w).params) 979 3814 e)
    (fun w => ⟨_, by decide, goC_again (e_C5a b w).1 (goC_run (e_C5b b _))⟩) (fun w => ⟨_, by decide, goC_again (e_C5a b w).2 (goC_run (e_C5b b _))⟩) w
theorem g_M (b : Bool) (w : World) : ∃ e, e ≤ 4166 ∧ GoC pw (W b w) 11 ann0 (xM (W b w)).d bM ⟨80, 47, 80, 59⟩ (TM (W b w).params) 989 3824 (.ok .next) (TMb (W b w).params) 991 4060 e :=
  byRow2 "comprehension-iter-twice" (P := fun w => ∃ e, e ≤ 4166 ∧ GoC pw (W b w) 11 ann0 (xM (W b w)).d bM ⟨80, 47, 80, 59⟩ (TM (W b w).params) 989 3824 (.ok .next) (TMb (W b w).params) 991 4060 e)
    (fun w => ⟨_, by decide, goC_again (e_Ma b w).1 (goC_run (e_Mb b _))⟩) (fun w => ⟨_, by decide, goC_again (e_Ma b w).2 (goC_run (e_Mb b _))⟩) w
theorem bodyK_5 : (bodyK.drop 5).take 1 = bodyK.drop 5 := by kernel_rfl
theorem blockK : blockStart bodyK env1 = .pure () := by kernel_rfl
theorem block0 : blockStart bodyAll env0 = .pure () := by kernel_rfl
theorem g_known (b : Bool) (w : World) : ∃ e, e ≤ 51000 ∧ GoC pw (W b w) 11 ann0 c1 b1 pK (TK (W b w).params) 147 414 (.ok .next) (TC5c (W b w).params) 979 3815 e := by
  obtain ⟨eS, hS, gS⟩ := g_shapes b w
  obtain ⟨e1, h1, g1⟩ := g_C1 b w
  obtain ⟨e2, h2, g2⟩ := g_C2 b w
  obtain ⟨e3, h3, g3⟩ := g_C3 b w
  obtain ⟨e4, h4, g4⟩ := g_C4 b w
  obtain ⟨e5, h5, g5⟩ := g_C5 b w
  have s0 := go_callR (e_S b w) gS (e_S2 b w)
  have s1 := go_callR (e_C1 b w) g1 (e_C1c b w)
  have s2 := go_callR (e_C2 b w) g2 (e_C2c b w)
  have s3 := go_callR (e_C3 b w) g3 (e_C3c b w)
  have s4 := go_callR (e_C4 b w) g4 (e_C4c b w)
  have s5 := go_callR (e_C5 b w) g5 (e_C5c b w)
  rw [bodyK_5] at s5
  have t4 := go_app s4 s5
  rw [← cut1 bodyK 4 1] at t4
  have t3 := go_app s3 t4
  rw [← cut1 bodyK 3 1] at t3
  have t2 := go_app s2 t3
  rw [← cut1 bodyK 2 1] at t2
  have t1 := go_app s1 t2
  rw [← cut1 bodyK 1 1] at t1
  have t0 := go_app s0 t1
  rw [List.take_append_drop] at t0
  exact ⟨_, by omega, goC_body blockK t0⟩
theorem g_top (b : Bool) (w : World) : ∃ e, e ≤ 60000 ∧ GoC pw (W b w) 11 ann0 c0 b0 q0 (T0 (W b w).params) 15 187 (.ok .next) (TZ (W b w).params) 1152 4362 e := by
  obtain ⟨eK, hK, gK⟩ := g_known b w
  obtain ⟨eM, hM, gM⟩ := g_M b w
  have sK := go_callR (e_K b w) gK (e_K2 b w)
  have sM := go_callR (e_M b w) gM (e_Mc b w)
  have tM := go_app sM (go_run (e_Z b w))
  have h1 : stM ++ stZ = bodyAll.drop 21 := (cut1 bodyAll 21 1).symm
  rw [h1] at tM
  have tK := go_app sK tM
  have h2 : stK ++ bodyAll.drop 21 = bodyAll.drop 20 := (cut1 bodyAll 20 1).symm
  rw [h2] at tK
  have tA := go_app (go_run (e_A b w)) tK
  have h3 : stA ++ bodyAll.drop 20 = bodyAll := List.take_append_drop 20 bodyAll
  rw [h3] at tA
  exact ⟨_, by omega, goC_body block0 tA⟩
noncomputable abbrev cc : Code := .builtin "claim.caller" {}
noncomputable def xT (V : World) : Res := ev tD ⟨pw, V.params⟩ 11 ann0 sBody 1000 cc [] (topStub pw).cur (topStub pw).pos (TS0 V.params) 11 181 0
theorem e_T (b : Bool) (w : World) : xT (W b w) = .susp c0 (xT (W b w)).gd (xT (W b w)).lv (xT (W b w)).g cc q0 (T0 (W b w).params) 15 187 11 := by cases b <;> kernel_rfl
theorem e_T2 (b : Bool) (w : World) : run (W b w) no cc [] ((xT (W b w)).g (.ok .next)) q0 TZ 1152 4362 = .ok (.ok (.ret .none)) cc q0 (TZ (W b w).params) 1152 4362 0 := by cases b <;> kernel_rfl
theorem boot_tree (P : Params) : boot_heap P = absHeap (TS0 P) 11 {} := by kernel_rfl
theorem stub_eq : topStub pw = ⟨(topStub pw).cur, cc, (topStub pw).pos, []⟩ := by kernel_rfl
theorem toks_eq : boot_toks = 181 := by kernel_rfl
theorem top_runB (b : Bool) (w : World) (os : OsState) : topRun treeTable pw (W b w) 11 ann0 61000 ⟨boot_heap (W b w).params, Array.mk [], boot_drawn, boot_toks, os⟩ (topStub pw) = some ⟨absHeap (TZ (W b w).params) 1152 {}, Array.mk [], boot_drawn, 4362, os⟩ := by
  rw [boot_tree, stub_eq, toks_eq]
  obtain ⟨e, he, G⟩ := g_top b w
  have A := ev_after (p := pw) (w := W b w) (n₀ := 11) (ann := ann0) (life := {}) (gens := Array.mk []) (drawn := boot_drawn) (os := os) sBody 1000 cc [] (topStub pw).cur (topStub pw).pos (TS0 (W b w).params) 11 181 0 [] rfl trivial
  have h := e_T b w
  rw [den_eq] at A
  unfold xT at h
  rw [h] at A
  obtain ⟨d, B₁, hk, sf, x⟩ := A
  cases sf
  have st : ∃ kept, step (denote treeTable) pw (W b w) (sh (T0 (W b w).params) 15 {} (Array.mk []) boot_drawn 187 os) ⟨.call c0 none (xT (W b w)).gd (xT (W b w)).lv (xT (W b w)).g, cc, q0, []⟩ = .go (sh (T0 (W b w).params) 15 {} (Array.mk []) boot_drawn 187 os) ⟨denote treeTable c0, c0, q0, [.ret (xT (W b w)).g none (xT (W b w)).gd (xT (W b w)).lv cc q0 kept]⟩ := ⟨_, rfl⟩
  obtain ⟨kept, st⟩ := st
  obtain ⟨c₂, p₂, kept', y⟩ := G {} (Array.mk []) boot_drawn os [] (xT (W b w)).g (xT (W b w)).gd (xT (W b w)).lv cc q0 kept rfl trivial
  have back : step (denote treeTable) pw (W b w) (sh (TZ (W b w).params) 1152 {} (Array.mk []) boot_drawn 4362 os) ⟨fin (.ok .next), c₂, p₂, [.ret (xT (W b w)).g none (xT (W b w)).gd (xT (W b w)).lv cc q0 kept']⟩ = .go (sh (TZ (W b w).params) 1152 {} (Array.mk []) boot_drawn 4362 os) ⟨(xT (W b w)).g (.ok .next), cc, q0, []⟩ := rfl
  have A₂ := ev_after (p := pw) (w := W b w) (n₀ := 11) (ann := ann0) (life := {}) (gens := Array.mk []) (drawn := boot_drawn) (os := os) no 100000 cc [] ((xT (W b w)).g (.ok .next)) q0 (TZ (W b w).params) 1152 4362 0 [] rfl trivial
  have h2 := e_T2 b w
  unfold run at h2
  rw [den_eq] at A₂
  rw [h2] at A₂
  obtain ⟨d₂, B₂, hk₂, sf₂, z⟩ := A₂
  cases sf₂
  have x1 := x.trans (Path.one (Nat.le_refl _) (fun _ f h => by cases h) (stepOk_of rfl) st)
  have x2 := x1.trans (Path.weaken (m := 0) y (Nat.le_refl _))
  have x3 := x2.trans (Path.one (Nat.zero_le _) (fun h => absurd h (Nat.succ_ne_zero _)) (stepOk_of rfl) back)
  have x4 := x3.trans z
  have fin1 : topRun treeTable pw (W b w) 11 ann0 1 (sh (TZ (W b w).params) 1152 {} (Array.mk []) boot_drawn 4362 os) ⟨fin (.ok (.ret .none)), cc, q0, []⟩ = some (sh (TZ (W b w).params) 1152 {} (Array.mk []) boot_drawn 4362 os) := rfl
  have r := Path.top x4 fin1
  have hle : d + 1 + e + 1 + d₂ + 1 ≤ 61000 := by omega
  have m := topRun_mono (61000 - (d + 1 + e + 1 + d₂ + 1)) _ _ _ _ r
  rw [Nat.add_sub_cancel' hle] at m
  exact m
theorem top_run (w : World) (os : OsState) : topRun treeTable pw w 11 ann0 61000 ⟨boot_heap w.params, Array.mk [], boot_drawn, boot_toks, os⟩ (topStub pw) = some ⟨absHeap (TZ w.params) 1152 {}, Array.mk [], boot_drawn, 4362, os⟩ :=
  byRow2 "special-get-raises" (P := fun w => topRun treeTable pw w 11 ann0 61000 ⟨boot_heap w.params, Array.mk [], boot_drawn, boot_toks, os⟩ (topStub pw) = some ⟨absHeap (TZ w.params) 1152 {}, Array.mk [], boot_drawn, 4362, os⟩) (fun w => top_runB false w os) (fun w => top_runB true w os) w
noncomputable def qv : Program := { pw with main := { pw.main with body := [astAt 45] } }
noncomputable def looseL : List Str := [sO "BoardError", sO "BadArgument", sO "BadInstruction", sO "LOAD", sO "FENCES", sO "IMMEDIATE", sO "AUIPC", sO "STORE", sO "REGISTER", sO "LUI", sO "BRANCH", sO "JALR", sO "JAL", sO "SYSTEM", sO "Instruction", sO "Shape", sO "numbered", sO "shapes", sO "Known", sO "FORMATS", sO "USED", sO "RANGES", sO "names", sO "shape_of", sO "check", sO "spread_branch", sO "spread_jump", sO "encode", sO "gathered_branch", sO "gathered_jump", sO "find_shape", sO "decode", sO "_law_box", sO "_law_take", sO "_law_row", sO "_law_fixed", sO "_law_bits", sO "_law_drawn", sO "_law_told", sO "_law_turned_right", sO "_law_refuses", sO "_law_range_right"]
noncomputable def Yf (s : Shared) : List (Option Obj) := KA.map s.heap.get?
noncomputable def Ya (w : World) : List (Option Obj) := (KK w.params).map fun p => some p.2
noncomputable def H1 (P : Params) : Heap := absHeap (TZ P) 1152 {}
theorem boot_pw (w : World) : (importEnds treeTable (opening pw) w 600 (start (opening pw)).1 (start (opening pw)).2).map (fun s => (s.heap, s.gens, s.drawn, s.toks)) = some (boot_heap w.params, Array.mk [], boot_drawn, boot_toks) := by kernel_rfl
theorem h_fence (s : Shared) : fenceModules? pw s = some s := by kernel_rfl
theorem h_size (w : World) : ((boot_heap w.params).isNs mainGlobals && (Array.mk [] : Array GenState).size == 0, (boot_heap w.params).objs.size, (boot_heap w.params).nsMap mainGlobals "__annotations__") = (true, 11, ann0) := by kernel_rfl
theorem h_open (w : World) : (fencedOpening treeTable pw w 61000).map (fun s => (s.heap, s.gens, s.drawn, s.toks)) = some (boot_heap w.params, Array.mk [], boot_drawn, boot_toks) := by
  obtain ⟨s, hs, hv⟩ := Option.map_eq_some_iff.mp (boot_pw w)
  have m := importEnds_mono 60400 _ _ _ _ hs
  unfold fencedOpening
  rw [m]
  show ((fenceModules? pw s)).map _ = _
  rw [h_fence]
  exact congrArg some hv
theorem h_l1 (w : World) : staticsOk (importedModules pw.main.body) (boot_heap w.params) (H1 w.params) = true := by kernel_rfl
theorem h_l2 (w : World) : namesBound pw (H1 w.params) = true := by kernel_rfl
theorem h_l4 (w : World) : laidKept (boot_heap w.params) (H1 w.params) = true := by kernel_rfl
theorem map_get {t : BT} {n : Nat} {life : Life} : ∀ (l : List Nat), (l.all fun a => Nat.blt a n && (t.get a).isSome) = true → l.map (absHeap t n life).get? = l.map fun a => (t.get a).bind alive
  | [], _ => rfl
  | a :: l, h => by
    rw [List.all_cons, Bool.and_eq_true, Bool.and_eq_true] at h
    obtain ⟨o, e⟩ := Option.isSome_iff_exists.mp h.1.2
    rw [List.map_cons, List.map_cons, map_get l h.2, abs_get (Nat.le_of_ble_eq_true h.1.1) e, e]; rfl
theorem h_all (P : Params) : (KA.all fun a => Nat.blt a 1152 && ((TZ P).get a).isSome) = true := by kernel_rfl
theorem h_Y (w : World) (os : OsState) : Yf ⟨H1 w.params, Array.mk [], boot_drawn, 4362, os⟩ = Ya w := (map_get KA (h_all _)).trans (by kernel_rfl)
theorem h_seen (w : World) (os : OsState) : openSeen qv looseL (importedModules pw.main.body) (fun _ => true) true ⟨H1 w.params, Array.mk [], boot_drawn, 4362, os⟩ = openGood qv looseL := by kernel_rfl
theorem left : LeftO pw qv looseL (fun _ => true) Yf Ya 61000 := by
  refine LeftO.of_pieces (H₀ := boot_heap) (H₁ := H1) (gs₀ := Array.mk []) (gs₁ := Array.mk []) (d₀ := boot_drawn) (d₁ := boot_drawn) (k₀ := boot_toks) (k₁ := 4362) (m₀ := 11) (ann := ann0) (M := 61000) h_open h_size (fun w os => top_run w os) rfl fun w => ?_
  funext os
  rw [h_l1, h_l2, h_l4, h_seen, h_Y]
  rfl
theorem kk_keys (P : Params) : KA = (KK P).map (·.1) := by kernel_rfl
noncomputable def YP (w : World) (h : Heap) : Prop := (KK w.params).In h
theorem h_says (w : World) (s : Shared) (e : Yf s = Ya w) : YP w s.heap := Frag.in_of (kk_keys w.params) e
theorem ws1 : PySem.W.Fast.tw17960256430627541270 (PySem.W.Fast.tw2368527892694137696 PySem.Challenge.rw_nz0215_01) = true := by kernel_rfl
theorem ws2 : PySem.W.OpenLaw.wellSaid PySem.Challenge.rw_nz0215_01 = true := by
  rw [PySem.W.Fast.te9446332074065402090]
  unfold PySem.W.Fast.tw9446332074065402090
  rw [ws1]
  kernel_rfl
theorem hd (walk : WalkO qv looseL (fun _ _ => True) YP PySem.Challenge.rw_nz0215_01.row.toRowW ⟨sO "law", fnParams (astAt 45), fnBody (astAt 45), fnScope (astAt 45), ⟨268, 0, 283, 15⟩⟩ [] fun f vs => PySem.call f vs) : PySem.Challenge.rw_nz0215_01.Holds := by
  refine PySem.W.holds_law ws2 fun said => ?_
  refine PySem.W.holds_open (q := qv) (loose := looseL) (Xt := fun _ => true) (XP := fun _ _ => True) (Yf := Yf) (Ya := Ya) (YP := YP) (N := 61000) left h_says (fun w h h' y k => Frag.In.keeps y k) (fun _ _ => trivial) (fun _ _ _ _ _ => trivial) (by kernel_rfl) (by kernel_rfl) (by kernel_rfl) (fun _ _ => recFacts_nil rfl) rfl (by assumption) (by decide +kernel) ⟨rfl, rfl, rfl, rfl, rfl, by decide +kernel⟩ ?hw walk
  w_witness2
end
open PySem.Calls
noncomputable abbrev View := Addr → Option Obj
noncomputable def vw (h : Heap) (X : List Addr) : View := fun a => if a ∈ X then none else h.get? a
inductive OC where
  | dict (kvs : List (Str × Int)) | box (g s n : Int)
inductive AV where
  | none | bool (b : Bool) | int (n : Int) | str (s : Str) | glob (v : Value)
  | tup (l : List AV) | list (l : List AV) | inst (nm : Str) (rd rs1 rs2 imm csr : Int)
  | own (a : Addr) (oc : OC) | dict (w : World) (kvs : List (Str × Int))
noncomputable def AV.isOwn : AV → Bool | .own _ _ => true | _ => false
inductive KvI : List (Str × Value) → List (Str × Int) → Prop
  | nil : KvI [] []
  | cons {x n t l m} : KvI l m → KvI ((x, .int n t) :: l) ((x, n) :: m)
noncomputable def Holds (w : World) (h : Heap) (a : Addr) : OC → Prop
  | .dict kvs => ∃ vs : List (Str × Value), h.DictOf (strKind PySem.Challenge.rw_nz0215_01.row.prog w) a vs ∧ KvI vs kvs
  | .box g s n => ∃ t0 t1 t2, h.IsList a #[.int g t0, .int s t1, .int n t2]
theorem Holds.keep {w h h' a} : ∀ {oc}, Holds w h a oc → (∀ o, h.get? a = some o → h'.get? a = some o) → Holds w h' a oc
  | .dict _, ⟨vs, d, f⟩, k => ⟨vs, d.at k, f⟩
  | .box _ _ _, ⟨t0, t1, t2, o, e, r⟩, k => ⟨t0, t1, t2, o, k o e, r⟩
noncomputable def DictO (w : World) (o : Obj) (vs : List (Str × Value)) : Prop :=
  ∃ es ep, o.ExactDict ∧ o.data = .dict es ep ∧ KeysOf (strKind PySem.Challenge.rw_nz0215_01.row.prog w) es ∧ Pairs (strKind PySem.Challenge.rw_nz0215_01.row.prog w) es.toList vs ∧ (vs.map (·.1)).Nodup
mutual
inductive Rep (V : View) : Value → AV → Prop
  | none : Rep V .none .none
  | bool {b} : Rep V (.bool b) (.bool b)
  | int {n t} : Rep V (.int n t) (.int n)
  | str {s t} : Rep V (.str s t) (.str s)
  | glob {v} : Rep V v (.glob v)
  | tup {a o vs n l} : V a = some o → o.cls = .type "tuple" → o.data = .seq (List.toArray vs) n → Reps V vs l → Rep V (.ref a) (.tup l)
  | list {a o vs n l} : V a = some o → o.cls = .type "list" → o.data = .seq (List.toArray vs) n → Reps V vs l → Rep V (.ref a) (.list l)
  | inst {a d es n nm rd rs1 rs2 imm csr t0 t1 t2 t3 t4 t5} : V a = some (instObj 91 d) → V d = some (dictOf es n) →
      getL (sO "name") es = some (some (.str nm t0)) → getL (sO "rd") es = some (some (.int rd t1)) → getL (sO "rs1") es = some (some (.int rs1 t2)) →
      getL (sO "rs2") es = some (some (.int rs2 t3)) → getL (sO "imm") es = some (some (.int imm t4)) → getL (sO "csr") es = some (some (.int csr t5)) →
      getL (sO "fields") es = some none → Rep V (.ref a) (.inst nm rd rs1 rs2 imm csr)
  | own {a oc} : Rep V (.ref a) (.own a oc)
  | dict {w a o vs kvs} : V a = some o → (a == sysModules) = false → DictO w o vs → KvI vs kvs → Rep V (.ref a) (.dict w kvs)
inductive Reps (V : View) : List Value → List AV → Prop
  | nil : Reps V [] []
  | cons {v a vs as} : Rep V v a → Reps V vs as → Reps V (v :: vs) (a :: as)
end
noncomputable def RepI (V : View) (v : Value) : AV → Prop
  | .none => v = .none
  | .bool b => v = .bool b
  | .int n => ∃ t, v = .int n t
  | .str s => ∃ t, v = .str s t
  | .glob u => v = u
  | .own a _ => v = .ref a
  | .tup l => ∃ a o vs n, v = .ref a ∧ V a = some o ∧ o.cls = .type "tuple" ∧ o.data = .seq (List.toArray vs) n ∧ Reps V vs l
  | .list l => ∃ a o vs n, v = .ref a ∧ V a = some o ∧ o.cls = .type "list" ∧ o.data = .seq (List.toArray vs) n ∧ Reps V vs l
  | .dict w kvs => ∃ a o vs, v = .ref a ∧ V a = some o ∧ (a == sysModules) = false ∧ DictO w o vs ∧ KvI vs kvs
  | .inst .. => ∃ a, v = .ref a
theorem Rep.i {V : View} {v a} (r : Rep V v a) : RepI V v a := match r with
  | .none => rfl
  | .bool => rfl
  | .int => ⟨_, rfl⟩
  | .str => ⟨_, rfl⟩
  | .glob => rfl
  | .own => rfl
  | .tup e c d r => ⟨_, _, _, _, rfl, e, c, d, r⟩
  | .list e c d r => ⟨_, _, _, _, rfl, e, c, d, r⟩
  | .dict e e' d f => ⟨_, _, _, rfl, e, e', d, f⟩
  | .inst .. => ⟨_, rfl⟩
noncomputable def RepsI (V : View) (vs : List Value) : List AV → Prop
  | [] => vs = []
  | a :: as => ∃ v vs', vs = v :: vs' ∧ Rep V v a ∧ Reps V vs' as
theorem Reps.i {V : View} {vs as} (r : Reps V vs as) : RepsI V vs as := match r with
  | .nil => rfl
  | .cons r rs => ⟨_, _, rfl, r, rs⟩
noncomputable def VLe (V W : View) : Prop := ∀ a o, V a = some o → W a = some o
mutual
theorem Rep.mono {V W : View} (k : VLe V W) : ∀ {v a}, Rep V v a → Rep W v a
  | _, _, .none => .none
  | _, _, .bool => .bool
  | _, _, .int => .int
  | _, _, .str => .str
  | _, _, .glob => .glob
  | _, _, .tup e c d r => .tup (k _ _ e) c d (Reps.mono k r)
  | _, _, .list e c d r => .list (k _ _ e) c d (Reps.mono k r)
  | _, _, .own => .own
  | _, _, .dict e e' d f => .dict (k _ _ e) e' d f
  | _, _, .inst e e' x0 x1 x2 x3 x4 x5 x6 => .inst (k _ _ e) (k _ _ e') x0 x1 x2 x3 x4 x5 x6
theorem Reps.mono {V W : View} (k : VLe V W) : ∀ {vs as}, Reps V vs as → Reps W vs as
  | _, _, .nil => .nil
  | _, _, .cons r rs => .cons (r.mono k) (rs.mono k)
end
noncomputable def There (h : Heap) (a : Addr) : Prop := ∃ o, h.get? a = some o ∧ ∀ vs, o.data ≠ .fields vs
noncomputable def Live (h h' : Heap) : Prop := ∀ a, There h a → There h' a
theorem Live.refl {h} : Live h h := fun _ x => x
theorem Live.trans {h h' h''} (x : Live h h') (y : Live h' h'') : Live h h'' := fun a z => y a (x a z)
theorem Live.of_keeps {h h'} (k : ∀ a o, h.get? a = some o → h'.get? a = some o) : Live h h' := fun a ⟨o, e, n⟩ => ⟨o, k a o e, n⟩
theorem Live.of_slots {h h' : Heap} (k : ∀ a o, h.get? a = some o → ∃ sl, h'.get? a = some { o with slots := sl }) : Live h h' := fun a ⟨o, e, n⟩ => let ⟨_, q⟩ := k a o e; ⟨_, q, n⟩
theorem There.ns {h : Heap} {a m} (x : h.Ns a m) : There h a := let ⟨o, _, _, e, d, _⟩ := x; ⟨o, e, fun vs q => by rw [d] at q; cases q⟩
theorem There.lt {h a} (x : There h a) : a < h.objs.size := let ⟨_, e, _⟩ := x; Heap.lt_size e
noncomputable def Kp (fr : List Addr) (h h' : Heap) : Prop :=
  Live h h' ∧ (∀ a o, a ∉ fr → h.get? a = some o → h'.get? a = some o) ∧ (∀ a o, h.get? a = some o → ∃ sl, h'.get? a = some { o with slots := sl })
theorem Kp.refl {fr h} : Kp fr h h := ⟨.refl, fun _ _ _ e => e, fun _ o e => ⟨o.slots, e⟩⟩
theorem Kp.trans {fr h h' h''} (x : Kp fr h h') (y : Kp fr h' h'') : Kp fr h h'' :=
  ⟨x.1.trans y.1, fun a o n e => y.2.1 a o n (x.2.1 a o n e), fun a o e => by
    obtain ⟨sl, e⟩ := x.2.2 a o e
    obtain ⟨sl', e⟩ := y.2.2 a _ e
    exact ⟨sl', e⟩⟩
theorem Kp.of {fr h h'} (k : ∀ a o, h.get? a = some o → h'.get? a = some o) : Kp fr h h' := ⟨.of_keeps k, fun a o _ e => k a o e, fun a o e => ⟨o.slots, k a o e⟩⟩
theorem Kp.of_keeps {fr h h'} (k : ∀ a o, h.get? a = some o → h'.get? a = some o) (hs : h.objs.size ≤ h'.objs.size) : Kp fr h h' := .of k
theorem Kp.push {fr h} (o : Obj) : Kp fr h (h.push o) := .of_keeps (fun _ _ e => Heap.get?_push_of_some _ e) (by rw [Heap.size_push]; exact Nat.le_succ _)
theorem Kp.vle {fr X h h'} (k : Kp fr h h') (hs : ∀ a ∈ fr, a ∈ X) : VLe (vw h X) (vw h' X) := fun a o e => by
  unfold vw at e ⊢
  split at e
  · cases e
  · rename_i q
    rw [if_neg q]
    exact k.2.1 a o (fun z => q (hs a z)) e
noncomputable def FrOk (h : Heap) (l : List Env) : Prop := ∀ env ∈ l, env.scope.kind ≠ .module ∧ ∃ L o es ep, env.frame = some L ∧ h.get? L = some o ∧ o.data = .dict es ep
noncomputable def frs (l : List Env) : List Addr := l.filterMap (·.frame)
theorem FrOk.kp {fr h h' l} (f : FrOk h l) (k : Kp fr h h') : FrOk h' l := fun env he => by
  obtain ⟨a, L, o, es, ep, b, c, d⟩ := f env he
  obtain ⟨sl, e⟩ := k.2.2 L o c
  exact ⟨a, L, _, es, ep, b, e, d⟩
theorem ns_kp {fr h h' L m} (n : Heap.Ns h L m) (k : Kp fr h h') : h'.Ns L m := by
  obtain ⟨o, es, ep, a, b, c⟩ := n
  obtain ⟨sl, e⟩ := k.2.2 L o a
  exact ⟨_, es, ep, e, b, c⟩
noncomputable abbrev MW (w : World) : Model := model PySem.Challenge.rw_nz0215_01.row.prog w
structure Gr (w : World) (mg mb : Str → Option Value) (H : Heap) : Prop where
  kx : (KK w.params).In H
  g : H.Ns mainGlobals mg
  b : H.Ns builtinsNs mb
  nolimit : H.NoLimit
  builtins : ∀ x : Str, x ≠ Str.ofString "__name__" → mb x = bootBuiltins x
theorem Gr.keeps {w mg mb H H'} (G : Gr w mg mb H) (k : ∀ a o, H.get? a = some o → H'.get? a = some o) : Gr w mg mb H' :=
  ⟨fun a o e => k _ _ (G.kx a o e), G.g.keeps k, G.b.keeps k, G.nolimit.keeps k, G.builtins⟩
structure Gd where
  w : World
  mg : Str → Option Value
  mb : Str → Option Value
  H : Heap
noncomputable abbrev Gd.M (g : Gd) : Model := MW g.w
noncomputable def Gd.In (g : Gd) (h : Heap) : Prop := Gr g.w g.mg g.mb h
structure Cx where
  gd : Gd
  A : Around
  outer : List Env
  name : Str
  scope : Scope
  L : Addr
  fa : Addr
  cd : Value
  X : List Addr
  g : Array GenState
  d : Drawn
  os : OsState
  own : List Addr
  cells : List (Str × Addr)
noncomputable def Cx.env (c : Cx) : Env := { envOf c.name c.scope c.L c.fa c.cd with cells := c.cells }
noncomputable abbrev Cx.M (c : Cx) : Model := MW c.gd.w
noncomputable abbrev Cx.B (c : Cx) : Around := c.A.deeper c.env
noncomputable abbrev Cx.sh (c : Cx) (h : Heap) (tk : Nat) : Shared := ⟨h, c.g, c.d, tk, c.os⟩
noncomputable def Cx.fr (c : Cx) : List Addr := c.L :: frs c.outer
noncomputable abbrev Loc := List (Str × AV)
noncomputable def LRep (V : View) (m : Str → Option Value) (ρ : Loc) : Prop := ∀ x a, ρ.lookup x = some a → ∃ v, m x = some v ∧ Rep V v a
structure Cx.Ok (c : Cx) (lev : Nat) : Prop where
  gr : Gr c.gd.w c.gd.mg c.gd.mb c.gd.H
  stack : c.A.frames = some c.outer
  depth : c.A.depth + lev ≤ 900
  units : c.A.units + 20 * lev ≤ 9000
  kind : c.scope.kind = .function
  hand : c.A.handled = none
  frX : ∀ a ∈ c.fr, a ∈ c.X
  hX : ∀ a o, c.gd.H.get? a = some o → a ∉ c.X
  ownX : ∀ a ∈ c.own, a ∈ c.X
  ownF : ∀ a ∈ c.own, a ∉ c.fr
structure St (c : Cx) (ρ : Loc) (h : Heap) : Prop where
  ns : ∃ m, h.Ns c.L m ∧ LRep (vw h c.X) m ρ
  keep : ∀ a o, c.gd.H.get? a = some o → h.get? a = some o
  frs : FrOk h c.outer
  xlt : ∀ a ∈ c.X, ∃ o, h.get? a = some o
  oth : ∀ a ∈ c.own, There h a
  own : ∀ x a oc, ρ.lookup x = some (.own a oc) → a ∈ c.own ∧ Holds c.gd.w h a oc
theorem St.kp {c : Cx} {lev ρ h h'} (ok : c.Ok lev) (S : St c ρ h) (k : Kp c.fr h h') : St c ρ h' := by
  obtain ⟨m, hn, hr⟩ := S.ns
  refine ⟨⟨m, ns_kp hn k, fun x a e => ?_⟩, fun a o e => k.2.1 a o (fun q => ok.hX a o e (ok.frX a q)) (S.keep a o e), S.frs.kp k, fun a ha => (let ⟨_, e⟩ := S.xlt a ha; let ⟨_, e'⟩ := k.2.2 a _ e; ⟨_, e'⟩), fun a ha => k.1 a (S.oth a ha), fun x a oc e => ⟨(S.own x a oc e).1, (S.own x a oc e).2.keep fun o q => k.2.1 a o (ok.ownF a (S.own x a oc e).1) q⟩⟩
  obtain ⟨v, e1, e2⟩ := hr x a e
  exact ⟨v, e1, e2.mono (k.vle ok.frX)⟩
theorem St.lt {c : Cx} {ρ h} (S : St c ρ h) : ∀ a ∈ c.X, a < h.objs.size := fun a ha => let ⟨_, e⟩ := S.xlt a ha; Heap.lt_size e
theorem St.gr {c : Cx} {lev ρ h} (ok : c.Ok lev) (S : St c ρ h) : Gr c.gd.w c.gd.mg c.gd.mb h := ok.gr.keeps S.keep
noncomputable def EvJ (c : Cx) (ρ : Loc) (e : Expr) (a : AV) : Prop := ∀ h tk Q E, St c ρ h →
  (∀ h' tk' v, Kp c.fr h h' → Rep (vw h' c.X) v a → Q v (c.sh h' tk')) → wpAny c.M c.B (eval e c.env) Q E (c.sh h tk)
noncomputable def TsJ (c : Cx) (ρ : Loc) (e : Expr) (b : Bool) : Prop := ∀ h tk Q E, St c ρ h →
  (∀ h' tk', Kp c.fr h h' → Q b (c.sh h' tk')) → wpAny c.M c.B (PySem.isTrue e c.env (eval e c.env)) Q E (c.sh h tk)
noncomputable def OpJ (c : Cx) (f : Value → Value → Sem Value) (a b r : AV) : Prop := ∀ ρ h tk Q E v u, St c ρ h → Rep (vw h c.X) v a → Rep (vw h c.X) u b →
  (∀ h' tk' x, Kp c.fr h h' → Rep (vw h' c.X) x r → Q x (c.sh h' tk')) → wpAny c.M c.B (f v u) Q E (c.sh h tk)
section
variable {c : Cx} {lev : Nat} {ρ : Loc} (ok : c.Ok lev)
theorem ev_name {x : Str} {p : Pos} {a : AV} (hl : ρ.lookup x = some a) (hk : c.scope.kind = .function) (hx : c.env.kindOf x = some .local) (hd : (x == ("__debug__" : Str)) = false) : EvJ c ρ (.Name x p) a := fun h tk Q E S k => by
  obtain ⟨m, hn, hr⟩ := S.ns
  obtain ⟨v, e1, e2⟩ := hr x a hl
  exact wpAny_Name (wpAny_loadName_local hk hx hn e1 (k h tk v .refl e2)) hd
include ok in
theorem ev_bin {l r : Expr} {op p a b x} (h1 : EvJ c ρ l a) (h2 : EvJ c ρ r b) (h3 : OpJ c (binaryOp op) a b x) : EvJ c ρ (.BinOp l op r p) x := fun h tk Q E S k => by
  refine wpAny_BinOp (h1 h tk _ _ S fun h' tk' v k1 r1 => ?_)
  have S1 := S.kp ok k1
  refine h2 h' tk' _ _ S1 fun h'' tk'' u k2 r2 => ?_
  exact h3 ρ h'' tk'' _ _ v u (S1.kp ok k2) (r1.mono (k2.vle ok.frX)) r2 fun h3 tk3 x k3 r3 => k _ _ _ ((k1.trans k2).trans k3) r3
theorem op_and {a b : Int} : OpJ c (binaryOp .BitAnd) (.int a) (.int b) (.int (Builtin.bitAnd a b)) := fun ρ h tk Q E v u S r1 r2 k => by
  obtain ⟨_, rfl⟩ := r1.i; obtain ⟨_, rfl⟩ := r2.i; exact and_int (k _ _ _ .refl .int)
theorem op_or {a b : Int} : OpJ c (binaryOp .BitOr) (.int a) (.int b) (.int (Builtin.bitOr a b)) := fun ρ h tk Q E v u S r1 r2 k => by
  obtain ⟨_, rfl⟩ := r1.i; obtain ⟨_, rfl⟩ := r2.i; exact or_int (k _ _ _ .refl .int)
theorem op_xor {a b : Int} : OpJ c (binaryOp .BitXor) (.int a) (.int b) (.int (Builtin.bitXor a b)) := fun ρ h tk Q E v u S r1 r2 k => by
  obtain ⟨_, rfl⟩ := r1.i; obtain ⟨_, rfl⟩ := r2.i; exact xor_int (k _ _ _ .refl .int)
theorem op_add {a b : Int} : OpJ c (binaryOp .Add) (.int a) (.int b) (.int (a + b)) := fun ρ h tk Q E v u S r1 r2 k => by
  obtain ⟨_, rfl⟩ := r1.i; obtain ⟨_, rfl⟩ := r2.i; exact add_int (k _ _ _ .refl .int)
theorem op_sub {a b : Int} : OpJ c (binaryOp .Sub) (.int a) (.int b) (.int (a - b)) := fun ρ h tk Q E v u S r1 r2 k => by
  obtain ⟨_, rfl⟩ := r1.i; obtain ⟨_, rfl⟩ := r2.i; exact sub_int (k _ _ _ .refl .int)
theorem op_shr {a n : Int} (hn : 0 ≤ n) : OpJ c (binaryOp .RShift) (.int a) (.int n) (.int (a.fdiv (2 ^ n.toNat))) := fun ρ h tk Q E v u S r1 r2 k => by
  obtain ⟨_, rfl⟩ := r1.i; obtain ⟨_, rfl⟩ := r2.i; exact rshift_int hn (k _ _ _ .refl .int)
theorem op_shl {a n : Int} (hn : 0 ≤ n) (hn' : n ≤ 1000000) (ha : a.natAbs < 2 ^ 64) : OpJ c (binaryOp .LShift) (.int a) (.int n) (.int (a * 2 ^ n.toNat)) := fun ρ h tk Q E v u S r1 r2 k => by
  obtain ⟨_, rfl⟩ := r1.i; obtain ⟨_, rfl⟩ := r2.i; exact lshift_int_small hn hn' ha (k _ _ _ .refl .int)
theorem op_lt {a b : Int} : OpJ c (compareOp .Lt) (.int a) (.int b) (.bool (decide (a < b))) := fun ρ h tk Q E v u S r1 r2 k => by
  obtain ⟨_, rfl⟩ := r1.i; obtain ⟨_, rfl⟩ := r2.i; exact lt_int (k _ _ _ .refl .bool)
theorem op_eqi {a b : Int} : OpJ c (compareOp .Eq) (.int a) (.int b) (.bool (a == b)) := fun ρ h tk Q E v u S r1 r2 k => by
  obtain ⟨_, rfl⟩ := r1.i; obtain ⟨_, rfl⟩ := r2.i; exact eq_int (k _ _ _ .refl .bool)
theorem op_eqs {a b : Str} : OpJ c (compareOp .Eq) (.str a) (.str b) (.bool (a == b)) := fun ρ h tk Q E v u S r1 r2 k => by
  obtain ⟨_, rfl⟩ := r1.i; obtain ⟨_, rfl⟩ := r2.i; exact eq_str (k _ _ _ .refl .bool)
end
noncomputable def KpS (c : Cx) (h h' : Heap) : Prop :=
  Live h h' ∧ (∀ a o, a ∉ c.fr → a ∉ c.own → h.get? a = some o → h'.get? a = some o) ∧ (∀ a o, a ≠ c.L → a ∉ c.own → h.get? a = some o → ∃ sl, h'.get? a = some { o with slots := sl })
theorem KpS.refl {c h} : KpS c h h := ⟨.refl, fun _ _ _ _ e => e, fun _ o _ _ e => ⟨o.slots, e⟩⟩
theorem KpS.trans {c h h' h''} (x : KpS c h h') (y : KpS c h' h'') : KpS c h h'' :=
  ⟨x.1.trans y.1, fun a o n n' e => y.2.1 a o n n' (x.2.1 a o n n' e), fun a o n n' e => by
    obtain ⟨sl, e⟩ := x.2.2 a o n n' e
    obtain ⟨sl', e⟩ := y.2.2 a _ n n' e
    exact ⟨sl', e⟩⟩
theorem Kp.s {c h h'} (x : Kp c.fr h h') : KpS c h h' := ⟨x.1, fun a o n _ e => x.2.1 a o n e, fun a o _ _ e => x.2.2 a o e⟩
theorem KpS.vle {c lev h h'} (ok : Cx.Ok c lev) (k : KpS c h h') : VLe (vw h c.X) (vw h' c.X) := fun a o e => by
  unfold vw at e ⊢
  split at e
  · cases e
  · rename_i q
    rw [if_neg q]
    exact k.2.1 a o (fun z => q (ok.frX a z)) (fun z => q (ok.ownX a z)) e
noncomputable def Fly (fr : List Addr) (l : List Env) (h h' : Heap) (C e : Addr) : Prop :=
  ∃ B a0, (∀ a o, a ∉ fr → h.get? a = some o → Heap.get? B a = some o) ∧ Heap.FlyingW B l e (.ref C) a0 h'
theorem KpS.both {c h h'} (k : KpS c h h') : ∀ a o, a ∉ c.fr ++ c.own → Heap.get? h a = some o → h'.get? a = some o := fun a o n e => k.2.1 a o (fun z => n (List.mem_append_left _ z)) (fun z => n (List.mem_append_right _ z)) e
theorem Fly.mono {fr l h h' h'' C e} (k : ∀ a o, a ∉ fr → Heap.get? h a = some o → h'.get? a = some o) (x : Fly fr l h' h'' C e) : Fly fr l h h'' C e :=
  let ⟨B, a0, b, f⟩ := x; ⟨B, a0, fun a o n e => b a o n (k a o n e), f⟩
noncomputable def Lv (c : Cx) (h h' : Heap) (C e : Addr) : Prop := ∀ tk Q E, (∀ h'' tk', KpS c h h'' → Fly (c.fr ++ c.own) c.outer h h'' C e → Q () (c.sh h'' tk')) → wpAny c.M c.B (leaving c.env (.ref e)) Q E (c.sh h' tk)
theorem Lv.mono {c h h' h'' C e} (k : KpS c h h') (x : Lv c h' h'' C e) : Lv c h h'' C e :=
  fun tk Q E q => x tk Q E fun h3 tk' k3 f => q h3 tk' (k.trans k3) (f.mono k.both)
noncomputable def HeldS (c : Cx) (h h' : Heap) (C e : Addr) : Prop :=
  ∃ B a0, (∀ a o, a ∉ c.fr ++ c.own → h.get? a = some o → Heap.get? B a = some o) ∧ Heap.HeldW B (c.env :: c.outer) e (.ref C) a0 c.L h'
noncomputable def Nt (c : Cx) (h h' : Heap) (C e : Addr) : Prop := ∀ tk Q E, (∀ h'' tk', KpS c h h'' → HeldS c h h'' C e → Q () (c.sh h'' tk')) → wpAny c.M c.B (noteFrame (.ref e) c.env) Q E (c.sh h' tk)
theorem HeldS.mono {c h h' h'' C e} (k : KpS c h h') (x : HeldS c h' h'' C e) : HeldS c h h'' C e :=
  let ⟨B, a0, b, f⟩ := x; ⟨B, a0, fun a o n e => b a o n (k.both a o n e), f⟩
theorem Nt.mono {c h h' h'' C e} (k : KpS c h h') (x : Nt c h' h'' C e) : Nt c h h'' C e :=
  fun tk Q E q => x tk Q E fun h3 tk' k3 f => q h3 tk' (k.trans k3) (f.mono k)
noncomputable def Lx (c : Cx) (h h' : Heap) (C e : Addr) : Prop := Lv c h h' C e ∧ Nt c h h' C e
theorem Lx.mono {c h h' h'' C e} (k : KpS c h h') (x : Lx c h' h'' C e) : Lx c h h'' C e := ⟨x.1.mono k, x.2.mono k⟩
inductive Out where
  | nxt (ρ : Loc) | ret (a : AV) (σ : List (Addr × OC) := []) | exc (C : Addr)
noncomputable def OutK (c : Cx) (h : Heap) (Q : Flow → Shared → Prop) (E : Value → Shared → Prop) : Out → Prop
  | .nxt ρ => ∀ h' tk', KpS c h h' → St c ρ h' → Q .next (c.sh h' tk')
  | .ret a σ => ∀ h' tk' v, KpS c h h' → Rep (vw h' c.X) v a → (∀ p ∈ σ, Holds c.gd.w h' p.1 p.2) → Q (.ret v) (c.sh h' tk')
  | .exc C => ∀ h' tk' e, KpS c h h' → Lx c h h' C e → E (.ref e) (c.sh h' tk')
theorem OutK.mono {c h h' Q E out} (k : KpS c h h') (x : OutK c h Q E out) : OutK c h' Q E out := by
  cases out with
  | nxt ρ => exact fun h3 tk k3 s => x h3 tk (k.trans k3) s
  | ret a σ => exact fun h3 tk v k3 s => x h3 tk v (k.trans k3) s
  | exc C => exact fun h3 tk e k3 s => x h3 tk e (k.trans k3) (s.mono k)
noncomputable def BlJ (c : Cx) (ρ : Loc) (ss : List Stmt) (out : Out) : Prop := ∀ h tk Q E, St c ρ h → OutK c h Q E out → wpAny c.M c.B (execs ss c.env) Q E (c.sh h tk)
noncomputable def SmJ (c : Cx) (ρ : Loc) (ss : Stmt) (out : Out) : Prop := ∀ h tk Q E, St c ρ h → OutK c h Q E out → wpAny c.M c.B (exec ss c.env) Q E (c.sh h tk)
section
variable {c : Cx} {lev : Nat} {ρ : Loc} (ok : c.Ok lev)
theorem ev_int {n : Int} {k p} : EvJ c ρ (.Constant (.int n) k p) (.int n) := fun _ _ _ _ _ k => wpAny_Constant_int (k _ _ _ .refl .int)
theorem ev_str {n : Str} {k p} : EvJ c ρ (.Constant (.str n) k p) (.str n) := fun _ _ _ _ _ k => wpAny_Constant_str (k _ _ _ .refl .str)
theorem ev_none {k p} : EvJ c ρ (.Constant .none k p) .none := fun _ _ _ _ _ k => wpAny_Constant_none (k _ _ _ .refl .none)
theorem ev_bool {b k p} : EvJ c ρ (.Constant (.bool b) k p) (.bool b) := fun _ _ _ _ _ k => wpAny_Constant_bool (k _ _ _ .refl .bool)
include ok in
theorem ev_global {x : Str} {p : Pos} {v : Value} (hv : nsIn (KK c.gd.w.params) mainGlobals x = some (some v)) (hk : c.scope.kind = .function) (hx : c.env.kindOf x = some .globalImplicit) (hd : (x == ("__debug__" : Str)) = false) : EvJ c ρ (.Name x p) (.glob v) := fun h tk Q E S k => by
  have G := S.gr ok
  exact Name_function_global (env := c.env) hk hx (loadGlobal_global (env := c.env) G.g (mg_of G.kx G.g hv) (k _ _ _ .refl .glob)) hd
include ok in
theorem ev_builtin {x : Str} {p : Pos} {v : Value} (hv : nsIn (KK c.gd.w.params) mainGlobals x = some none) (hb : bootBuiltins x = some v) (hk : c.scope.kind = .function) (hx : c.env.kindOf x = some .globalImplicit) (hn : x ≠ Str.ofString "__name__") (hd : (x == ("__debug__" : Str)) = false) : EvJ c ρ (.Name x p) (.glob v) := fun h tk Q E S k => by
  have G := S.gr ok
  exact Name_function_global (env := c.env) hk hx (loadGlobal_builtin (env := c.env) G.g (ns_none_of G.kx G.g hv) G.b ((G.builtins x hn).trans hb) (k _ _ _ .refl .glob)) hd
include ok in
theorem ev_cmp {l r : Expr} {op p a b x} (h1 : EvJ c ρ l a) (h2 : EvJ c ρ r b) (h3 : OpJ c (compareOp op) a b x) (hm : behindInMarks op r = false) : EvJ c ρ (.Compare l [op] [r] p) x := fun h tk Q E S k => by
  refine wpAny_Compare1 (h1 h tk _ _ S fun h' tk' v k1 r1 => ?_) hm
  have S1 := S.kp ok k1
  refine h2 h' tk' _ _ S1 fun h'' tk'' u k2 r2 => ?_
  exact h3 ρ h'' tk'' _ _ v u (S1.kp ok k2) (r1.mono (k2.vle ok.frX)) r2 fun h3 tk3 x k3 r3 => k _ _ _ ((k1.trans k2).trans k3) r3
include ok in
theorem ts_cmp {l r : Expr} {op p a b x} (h1 : EvJ c ρ l a) (h2 : EvJ c ρ r b) (h3 : OpJ c (compareOp op) a b (.bool x)) (hm : behindInMarks op r = false) : TsJ c ρ (.Compare l [op] [r] p) x := fun h tk Q E S k => by
  refine wpAny_isTrue_Compare1 (h1 h tk _ _ S fun h' tk' v k1 r1 => ?_) hm
  have S1 := S.kp ok k1
  refine h2 h' tk' _ _ S1 fun h'' tk'' u k2 r2 => ?_
  refine h3 ρ h'' tk'' _ _ v u (S1.kp ok k2) (r1.mono (k2.vle ok.frX)) r2 fun h3 tk3 x k3 r3 => ?_
  obtain rfl := r3.i
  exact wpAny_truthy_bool (k _ _ ((k1.trans k2).trans k3))
theorem ts_int {e : Expr} {n} (h1 : EvJ c ρ e (.int n)) (he : isTrue e c.env (eval e c.env) = (do let v ← eval e c.env; standAt e.pos; holding [v] (truthy v))) : TsJ c ρ e (n != 0) := fun h tk Q E S k =>
  isTrue_plain (h1 h tk _ _ S fun h' tk' v k1 r1 => by obtain ⟨_, rfl⟩ := r1.i; exact truthy_int (k _ _ k1)) he
theorem ts_bool {e : Expr} {b} (h1 : EvJ c ρ e (.bool b)) (he : isTrue e c.env (eval e c.env) = (do let v ← eval e c.env; standAt e.pos; holding [v] (truthy v))) : TsJ c ρ e b := fun h tk Q E S k =>
  isTrue_plain (h1 h tk _ _ S fun h' tk' v k1 r1 => by obtain rfl := r1.i; exact wpAny_truthy_bool (k _ _ k1)) he
theorem ts_not {e : Expr} {b p} (h1 : TsJ c ρ e b) : TsJ c ρ (.UnaryOp .Not e p) (!b) := fun h tk Q E S k =>
  isTrue_not (h1 h tk _ _ S fun h' tk' k1 => k _ _ k1)
noncomputable def TaJ (c : Cx) (ρ : Loc) (op : BoolOp) (es : List Expr) (b : Bool) : Prop := ∀ p whole h tk Q E, St c ρ h →
  (∀ h' tk', Kp c.fr h h' → Q b (c.sh h' tk')) → wpAny c.M c.B (PySem.isTrue (.BoolOp op es p) c.env whole) Q E (c.sh h tk)
theorem ts_boolop {op es p b} (h1 : TaJ c ρ op es b) : TsJ c ρ (.BoolOp op es p) b := fun h tk Q E S k => h1 _ _ h tk Q E S k
theorem ta_and_nil : TaJ c ρ .And [] true := fun _ _ h tk Q E S k => isTrue_and_nil (k _ _ .refl)
theorem ta_or_nil : TaJ c ρ .Or [] false := fun _ _ h tk Q E S k => isTrue_or_nil (k _ _ .refl)
include ok in
theorem ta_and {e es a b} (h1 : TsJ c ρ e a) (h2 : a = true → TaJ c ρ .And es b) : TaJ c ρ .And (e :: es) (a && b) := fun p whole h tk Q E S k =>
  isTrue_and (h1 h tk _ _ S fun h' tk' k1 => by
    cases a
    · exact k _ _ k1
    · exact h2 rfl _ _ _ _ _ _ (S.kp ok k1) fun h'' tk'' k2 => k _ _ (k1.trans k2))
include ok in
theorem ta_or {e es a b} (h1 : TsJ c ρ e a) (h2 : a = false → TaJ c ρ .Or es b) : TaJ c ρ .Or (e :: es) (a || b) := fun p whole h tk Q E S k =>
  isTrue_or (h1 h tk _ _ S fun h' tk' k1 => by
    cases a
    · exact h2 rfl _ _ _ _ _ _ (S.kp ok k1) fun h'' tk'' k2 => k _ _ (k1.trans k2)
    · exact k _ _ k1)
include ok in
theorem ev_if {t e1 e2 : Expr} {b a p} (h0 : TsJ c ρ t b) (h1 : b = true → EvJ c ρ e1 a) (h2 : b = false → EvJ c ρ e2 a) : EvJ c ρ (.IfExp t e1 e2 p) a := fun h tk Q E S k =>
  wpAny_IfExp (h0 h tk _ _ S fun h' tk' k1 => by
    cases b
    · exact h2 rfl _ _ _ _ (S.kp ok k1) fun h'' tk'' v k2 r => k _ _ _ (k1.trans k2) r
    · exact h1 rfl _ _ _ _ (S.kp ok k1) fun h'' tk'' v k2 r => k _ _ _ (k1.trans k2) r)
theorem sm_return {e : Expr} {a p} (h1 : EvJ c ρ e a) : SmJ c ρ (.Return (some e) p) (.ret a) := fun h tk Q E S k =>
  wpAny_Return_some (h1 h tk _ _ S fun h' tk' v k1 r => k h' tk' v k1.s r (fun _ z => nomatch z))
include ok in
theorem sm_returnS {e : Expr} {a p} {σ : List (Addr × OC)} (h1 : EvJ c ρ e a) (hσ : ∀ q ∈ σ, ∃ x, ρ.lookup x = some (.own q.1 q.2)) : SmJ c ρ (.Return (some e) p) (.ret a σ) := fun h tk Q E S k =>
  wpAny_Return_some (h1 h tk _ _ S fun h' tk' v k1 r => k h' tk' v k1.s r fun q hq => by
    obtain ⟨x, hx⟩ := hσ q hq
    exact ((S.kp ok k1).own x _ _ hx).2)
theorem bl_nil : BlJ c ρ [] (.nxt ρ) := fun h tk Q E S k => wpAny_execs_nil (k _ _ .refl S)
theorem bl_cons {s ss ρ' out} (h1 : SmJ c ρ s (.nxt ρ')) (h2 : BlJ c ρ' ss out) : BlJ c ρ (s :: ss) out := fun h tk Q E S k =>
  wpAny_execs_cons (h1 h tk _ _ S fun h' tk' k1 S1 => h2 _ _ _ _ S1 (k.mono k1))
theorem bl_ret {s ss a σ} (h1 : SmJ c ρ s (.ret a σ)) : BlJ c ρ (s :: ss) (.ret a σ) := fun h tk Q E S k =>
  wpAny_execs_cons (h1 h tk _ _ S fun h' tk' v k1 r => k _ _ _ k1 r)
theorem bl_exc {s ss C} (h1 : SmJ c ρ s (.exc C)) : BlJ c ρ (s :: ss) (.exc C) := fun h tk Q E S k =>
  wpAny_execs_cons (h1 h tk _ _ S fun h' tk' v k1 r => k _ _ _ k1 r)
noncomputable def Out.ends : Out → Bool | .nxt _ => false | _ => true
theorem OutK.cons {h : Heap} {rest Q E} : ∀ {out : Out}, out.ends = true → OutK c h Q E out → OutK c h (fun f s' => match f with | .next => wpAny c.M c.B (execs rest c.env) Q E s' | f => Q f s') E out
  | .ret _ _, _, k => fun h' tk' v k1 r => k h' tk' v k1 r
  | .exc _, _, k => k
include ok in
theorem bl_if {t : Expr} {b body p ss out} (h0 : TsJ c ρ t b) (he : b = true → out.ends = true) (h1 : b = true → BlJ c ρ body out) (h2 : b = false → BlJ c ρ ss out) : BlJ c ρ (.If t body [] p :: ss) out := fun h tk Q E S k => by
  refine wpAny_execs_cons (wpAny_If (h0 h tk _ _ S fun h' tk' k1 => ?_))
  have S1 := S.kp ok k1
  cases b
  · exact wpAny_execs_nil (h2 rfl _ _ _ _ S1 (k.mono k1.s))
  · exact h1 rfl _ _ _ _ S1 ((k.mono k1.s).cons (he rfl))
include ok in
theorem sm_if {t : Expr} {b body els p out} (h0 : TsJ c ρ t b) (h1 : b = true → BlJ c ρ body out) (h2 : b = false → BlJ c ρ els out) : SmJ c ρ (.If t body els p) out := fun h tk Q E S k => by
  refine wpAny_If (h0 h tk _ _ S fun h' tk' k1 => ?_)
  have S1 := S.kp ok k1
  cases b
  · exact h2 rfl _ _ _ _ S1 (k.mono k1.s)
  · exact h1 rfl _ _ _ _ S1 (k.mono k1.s)
noncomputable def setL (ρ : Loc) (x : Str) (a : AV) : Loc := (x, a) :: ρ
include ok in
theorem store_name {x : Str} {v : Value} {a : AV} {h : Heap} {tk : Nat} {Q : Unit → Shared → Prop} {E} (S : St c ρ h) (r : Rep (vw h c.X) v a) (hno : a.isOwn = false) (hl : c.env.kindOf x = some .local)
    (k : ∀ h' tk', KpS c h h' → St c ((x, a) :: ρ) h' → Q () (c.sh h' tk')) : wpAny c.M c.B (storeName c.env x v) Q E (c.sh h tk) := by
  obtain ⟨m, hn, hr⟩ := S.ns
  refine wpAny_storeName_local hl hn (fun h' hn' hs => ?_) (by show (c.scope.kind == .class || (c.scope.kind == .module && c.L != mainGlobals)) = false; rw [ok.kind]; rfl)
  have kk : KpS c h h' := ⟨fun a ⟨o, e, n⟩ => by
      by_cases q : a = c.L
      · exact q ▸ There.ns hn'
      · exact ⟨o, (hs.2 a q).trans e, n⟩, fun a o n _ e => (hs.2 a fun q => n (q ▸ .head _)).trans e, fun a o n _ e => ⟨o.slots, (hs.2 a n).trans e⟩⟩
  refine k h' _ kk ⟨⟨_, hn', fun y b e => ?_⟩, fun a o e => kk.2.1 a o (fun q => ok.hX a o e (ok.frX a q)) (fun q => ok.hX a o e (ok.ownX a q)) (S.keep a o e), fun env he => ?_, fun a ha => ?_, fun a ha => kk.1 a (S.oth a ha), fun y b oc e => ?_⟩
  · rw [List.lookup_cons] at e
    split at e
    · rename_i q
      cases e
      exact ⟨v, by rw [if_pos (beq_iff_eq.mp q)], r.mono (kk.vle ok)⟩
    · rename_i q
      obtain ⟨u, e1, e2⟩ := hr y b e
      exact ⟨u, by rw [if_neg (fun z => by rw [z, beq_self_eq_true] at q; cases q)]; exact e1, e2.mono (kk.vle ok)⟩
  · obtain ⟨a1, L, o, es, ep, b1, c1, d1⟩ := S.frs env he
    by_cases q : L = c.L
    · obtain ⟨o', es', ep', a', b', _⟩ := hn'
      exact ⟨a1, L, o', es', ep', b1, q ▸ a', b'⟩
    · exact ⟨a1, L, o, es, ep, b1, (hs.2 L q).trans c1, d1⟩
  · obtain ⟨o, e⟩ := S.xlt a ha
    by_cases q : a = c.L
    · obtain ⟨o', _, _, q', _⟩ := hn'
      exact ⟨o', q ▸ q'⟩
    · exact ⟨o, (hs.2 a q).trans e⟩
  · rw [List.lookup_cons] at e
    split at e
    · cases e; cases hno
    · obtain ⟨q1, q2⟩ := S.own y b oc e
      exact ⟨q1, q2.keep fun o q => (hs.2 b fun z => ok.ownF b q1 (z ▸ .head _)).trans q⟩
include ok in
theorem sm_assign {x : Str} {e : Expr} {a p p'} (h1 : EvJ c ρ e a) (hl : c.env.kindOf x = some .local) (hs : swapsWith e (some (.Name x p')) p.line c.env = pure false) (hno : a.isOwn = false) : SmJ c ρ (.Assign [.Name x p'] e p) (.nxt ((x, a) :: ρ)) := fun h tk Q E S k =>
  wpAny_Assign_Name (h1 h tk _ _ S fun h' tk' v k1 r => store_name ok (S.kp ok k1) r hno hl fun h'' tk'' k2 S2 => k _ _ (k1.s.trans k2) S2) hs
end
structure Cc where
  gd : Gd
  A : Around
  l : List Env
  X : List Addr
  g : Array GenState
  d : Drawn
  os : OsState
structure Cc.Ok (k : Cc) (lev : Nat) : Prop where
  gr : Gr k.gd.w k.gd.mg k.gd.mb k.gd.H
  stack : k.A.frames = some k.l
  depth : k.A.depth + lev ≤ 900
  units : k.A.units + 20 * lev ≤ 9000
  hand : k.A.handled = none
  frX : ∀ a ∈ frs k.l, a ∈ k.X
  hX : ∀ a o, k.gd.H.get? a = some o → a ∉ k.X
noncomputable abbrev Cc.sh (c : Cc) (h : Heap) (tk : Nat) : Shared := ⟨h, c.g, c.d, tk, c.os⟩
inductive COut where | ok (a : AV) | exc (C : Addr)
noncomputable def COutK (k : Cc) (h : Heap) (R : PySem.Result → Shared → Prop) : COut → Prop
  | .ok a => ∀ h' tk' v, Kp (frs k.l) h h' → Rep (vw h' k.X) v a → R (.ok (.ret v)) (k.sh h' tk')
  | .exc C => ∀ h' tk' e, Kp (frs k.l) h h' → Fly (frs k.l) k.l h h' C e → R (.error (.ref e)) (k.sh h' tk')
noncomputable def Con (gd : Gd) (lev : Nat) (f : Value) (as : List AV) (r : COut) : Prop := ∀ (k : Cc) h tk vs R, k.gd = gd → k.Ok lev → FrOk h k.l → (∀ a o, gd.H.get? a = some o → h.get? a = some o) → (∀ a ∈ k.X, ∃ o, h.get? a = some o) → Reps (vw h k.X) vs as →
  COutK k h R r → codeAny (MW gd.w) k.A (.call f ⟨vs, []⟩) R (k.sh h tk)
noncomputable def Out.cout : Out → COut | .nxt _ => .ok .none | .ret a _ => .ok a | .exc C => .exc C
inductive PR (V : View) : List (Str × Value) → Loc → Prop
  | nil : PR V [] []
  | cons {x v a l m} : Rep V v a → PR V l m → PR V ((x, v) :: l) ((x, a) :: m)
theorem PR.lrep {V : View} : ∀ {l m}, PR V l m → LRep V (fun x => l.lookup x) m
  | _, _, .nil => fun y a e => by simp at e
  | _, _, .cons (x := x) r rs => fun y a e => by
    show ∃ v, List.lookup y _ = some v ∧ _
    rw [List.lookup_cons] at e ⊢
    split at e
    · cases e; exact ⟨_, rfl, r⟩
    · exact rs.lrep y a e
theorem PR.append {V : View} : ∀ {l m l' m'}, PR V l m → PR V l' m' → PR V (l ++ l') (m ++ m')
  | _, _, _, _, .nil, q => q
  | _, _, _, _, .cons r rs, q => .cons r (rs.append q)
theorem PR.rev {V : View} : ∀ {l m}, PR V l m → PR V l.reverse m.reverse
  | _, _, .nil => .nil
  | _, _, .cons r rs => by
    rw [List.reverse_cons, List.reverse_cons]
    exact rs.rev.append (.cons r .nil)
theorem PR.zip {V : View} : ∀ {xs : List Str} {vs as}, Reps V vs as → PR V (xs.zip vs) (xs.zip as)
  | [], _, _, _ => by simp; exact .nil
  | x :: xs, _, _, .nil => .nil
  | x :: xs, _, _, .cons r rs => .cons r (PR.zip rs)
theorem Reps.len {V : View} : ∀ {vs as}, Reps V vs as → vs.length = as.length
  | _, _, .nil => rfl
  | _, _, .cons _ rs => congrArg (· + 1) rs.len
noncomputable def Cc.cx (k : Cc) (name : Str) (scope : Scope) (L fa : Addr) (cd : Value) : Cx := ⟨k.gd, k.A, k.l, name, scope, L, fa, cd, L :: k.X, k.g, k.d, k.os, [], []⟩
theorem notOwn_zip : ∀ {xs : List Str} {as : List AV}, (∀ a ∈ as, a.isOwn = false) → ∀ x a oc, (xs.zip as).reverse.lookup x = some (.own a oc) → False := fun {xs as} h x a oc e => by
  have : (x, AV.own a oc) ∈ (xs.zip as).reverse := by
    generalize (xs.zip as).reverse = l at e
    induction l with
    | nil => cases e
    | cons p l ih =>
      obtain ⟨p1, p2⟩ := p
      rw [List.lookup_cons] at e
      split at e
      · rename_i q; cases e; rw [beq_iff_eq.mp q]; exact .head _
      · exact .tail _ (ih e)
  have := h _ (List.of_mem_zip (List.mem_reverse.mp this)).2
  cases this
theorem enter_fn {k : Cc} {lev : Nat} {f : Addr} {name qual : Str} {params : Arguments} {body : List Stmt} {scope : Scope} {dV kV doc pm cdv ct oc : Value} {an od : Option Addr} {osl : Array (Option Value)} {as : List AV} (names : List Str) {h : Heap} {tk : Nat} {vs : List Value} {R : PySem.Result → Shared → Prop}
    (ho : (KK k.gd.w.params).lookup f = some ⟨oc, od, .func (fnOf name qual params body scope dV kV doc pm an cdv ct), osl⟩) (hcd : codeIn (KK k.gd.w.params) cdv qual = true)
    (hbind : ∀ s vs, vs.length = as.length → (KK k.gd.w.params).In s.heap → BindsTo s (fnOf name qual params body scope dV kV doc pm an cdv ct) ⟨vs, []⟩ (names.zip vs)) (hloc : ∀ y ∈ names, scope.names.lookup y = some .local)
    (ok : k.Ok (lev + 1)) (fo : FrOk h k.l) (hH : ∀ a o, k.gd.H.get? a = some o → h.get? a = some o) (hX : ∀ a ∈ k.X, ∃ o, h.get? a = some o) (rs : Reps (vw h k.X) vs as) (hno : ∀ a ∈ as, a.isOwn = false)
    (hb : ∀ h₁ tk₁, (k.cx qual scope h.objs.size f cdv).Ok lev → St (k.cx qual scope h.objs.size f cdv) (names.zip as).reverse h₁ → (∀ a o, h.get? a = some o → h₁.get? a = some o) → h.objs.size < h₁.objs.size → FrOk h k.l →
      wpAny (MW k.gd.w) (k.cx qual scope h.objs.size f cdv).B (execs body (k.cx qual scope h.objs.size f cdv).env) (fun f s' => R (.ok (.ret (match f with | .ret v => v | _ => .none))) s')
        (fun e s' => wpAny (MW k.gd.w) (k.cx qual scope h.objs.size f cdv).B (leaving (k.cx qual scope h.objs.size f cdv).env e) (fun _ s'' => R (.error e) s'') (fun e' s'' => R (.error e') s'') s') (k.sh h₁ tk₁))
    (hco : scope.isCoroutine = false := by rfl) (hgen : scope.isGenerator = false := by rfl) (hk : scope.kind = .function := by rfl)
    (hcell : ∀ x ∈ scope.names, x.2 ≠ .cell := by decide) : codeAny (MW k.gd.w) k.A (.call (.ref f) ⟨vs, []⟩) R (k.sh h tk) := by
  have G : Gr k.gd.w k.gd.mg k.gd.mb h := ok.gr.keeps hH
  have hL : ∀ a o, h.get? a = some o → a ≠ h.objs.size := fun a o e => Nat.ne_of_lt (Heap.lt_size e)
  refine codeAny_call_def (s := k.sh h tk) (fd := fnOf name qual params body scope dV kV doc pm an cdv ct) (body := body) (binds := names.zip vs) (by have := ok.depth; show _ < 1000; omega) (G.kx _ _ ho) rfl G.nolimit (codeRec_of G.kx hcd) rfl (hbind _ _ rs.len G.kx) hcell (fun y hy => hloc _ (List.of_mem_zip hy).1) (fun h₁ hns hk₁ => ?_) hco hgen hk
  have hsz : h.objs.size ≤ h₁.objs.size := Nat.le_of_lt hns.lt
  have okc : (k.cx qual scope h.objs.size f cdv).Ok lev := ⟨ok.gr, ok.stack, by have := ok.depth; show k.A.depth + lev ≤ 900; omega, by have := ok.units; show k.A.units + 20 * lev ≤ 9000; omega, hk, ok.hand, fun a ha => by
      rcases List.mem_cons.mp ha with q | q
      · exact q ▸ .head _
      · exact .tail _ (ok.frX a q), fun a o e q => by
      rcases List.mem_cons.mp q with q | q
      · exact hL a o (hH a o e) q
      · exact ok.hX a o e q, (fun _ z => nomatch z), (fun _ z => nomatch z)⟩
  have v0 : VLe (vw h k.X) (vw h₁ (k.cx qual scope h.objs.size f cdv).X) := fun a o e => by
    unfold vw at e ⊢
    split at e
    · cases e
    · rename_i q
      rw [if_neg (show ¬ a ∈ (k.cx qual scope h.objs.size f cdv).X from fun z => (List.mem_cons.mp z).elim (hL a o e) q)]
      exact hk₁ a o e
  have S : St (k.cx qual scope h.objs.size f cdv) (names.zip as).reverse h₁ := ⟨⟨_, hns, (PR.zip (Reps.mono v0 rs)).rev.lrep⟩, fun a o e => hk₁ a o (hH a o e), fun env he => by
    obtain ⟨a1, L, o, es, ep, b1, c1, d1⟩ := fo env he
    exact ⟨a1, L, o, es, ep, b1, hk₁ _ _ c1, d1⟩, fun a ha => by
    rcases List.mem_cons.mp ha with q | q
    · rw [q]; exact (let ⟨o, _, _, e, _⟩ := hns; ⟨o, e⟩)
    · exact (let ⟨o, e⟩ := hX a q; ⟨o, hk₁ a o e⟩), (fun _ z => nomatch z), fun x a oc e => (notOwn_zip hno x a oc e).elim⟩
  exact hb h₁ _ okc S hk₁ hns.lt fo
theorem vw_cons {k : Cc} {n sc L f cd} : ∀ h', VLe (vw h' (k.cx n sc L f cd).X) (vw h' k.X) := fun h' a o e => by
    unfold vw at e ⊢
    split at e
    · cases e
    · rename_i q
      rw [if_neg (show ¬ a ∈ k.X from fun z => q (List.mem_cons_of_mem _ z))]
      exact e
noncomputable def notOwns : List AV → Bool | [] => true | a :: l => !a.isOwn && notOwns l
theorem notOwns_of : ∀ {l : List AV}, notOwns l = true → ∀ a ∈ l, a.isOwn = false
  | a :: l, h, b, hb => by
    unfold notOwns at h
    rw [Bool.and_eq_true] at h
    rcases List.mem_cons.mp hb with rfl | hb
    · simpa using h.1
    · exact notOwns_of h.2 b hb
theorem con_fn {gd : Gd} {lev : Nat} {f : Addr} {name qual : Str} {params : Arguments} {body : List Stmt} {scope : Scope} {dV kV doc pm cdv ct oc : Value} {an od : Option Addr} {osl : Array (Option Value)} {as : List AV} {out : Out} (names : List Str)
    (ho : (KK gd.w.params).lookup f = some ⟨oc, od, .func (fnOf name qual params body scope dV kV doc pm an cdv ct), osl⟩) (hcd : codeIn (KK gd.w.params) cdv qual = true)
    (hbind : ∀ s vs, vs.length = as.length → (KK gd.w.params).In s.heap → BindsTo s (fnOf name qual params body scope dV kV doc pm an cdv ct) ⟨vs, []⟩ (names.zip vs)) (hloc : ∀ y ∈ names, scope.names.lookup y = some .local)
    (hb : ∀ c : Cx, c.gd = gd → c.Ok lev → c.scope = scope → c.name = qual → BlJ c (names.zip as).reverse body out)
    (hco : scope.isCoroutine = false := by rfl) (hgen : scope.isGenerator = false := by rfl) (hk : scope.kind = .function := by rfl)
    (hcell : ∀ x ∈ scope.names, x.2 ≠ .cell := by decide) (hno : notOwns as = true := by rfl) : Con gd (lev + 1) (.ref f) as out.cout := fun k h tk vs R eg ok fo hH hX rs kR => by
  subst eg
  refine enter_fn names ho hcd hbind hloc ok fo hH hX rs (notOwns_of hno) (fun h₁ tk₁ okc S hk₁ hlt _ => ?_) hco hgen hk hcell
  have hL : ∀ a o, h.get? a = some o → a ≠ h.objs.size := fun a o e => Nat.ne_of_lt (Heap.lt_size e)
  have kp : ∀ h', KpS (k.cx qual scope h.objs.size f cdv) h₁ h' → Kp (frs k.l) h h' := fun h' q => ⟨(Live.of_keeps hk₁).trans q.1, fun a o n e => q.2.1 a o (fun z => (List.mem_cons.mp z).elim (hL a o e) n) (fun z => nomatch z) (hk₁ a o e), fun a o e => q.2.2 a o (hL a o e) (fun z => nomatch z) (hk₁ a o e)⟩
  refine hb (k.cx qual scope h.objs.size f cdv) rfl okc rfl rfl h₁ _ _ _ S ?_
  cases out with
  | nxt ρ => exact fun h' tk' q S' => kR h' tk' .none (kp h' q) .none
  | ret a σ => exact fun h' tk' v q r _ => kR h' tk' v (kp h' q) (r.mono (vw_cons h'))
  | exc C => exact fun h' tk' e q lv => lv.1 tk' _ _ fun h'' tk'' q' f => kR h'' tk'' e (kp h'' q') (let ⟨B, a0, b, fl⟩ := f; ⟨B, a0, fun a o n e => b a o (fun z => (List.mem_append.mp z).elim (fun z => (List.mem_cons.mp z).elim (hL a o e) n) (fun z => nomatch z)) (hk₁ a o e), fl⟩)
theorem kd {c : Cx} {sc : Scope} {x : Str} {k : NameKind} (hs : c.scope = sc) (h : sc.names.lookup x = some k) : c.env.kindOf x = some k := by
  unfold Cx.env envOf Env.kindOf; rw [hs]; exact h
theorem lk_here {x : Str} {a : AV} {l : Loc} : List.lookup x ((x, a) :: l) = some a := by rw [List.lookup_cons, beq_self_eq_true]
theorem lk_next {x y : Str} {a b : AV} {l : Loc} (h : (x == y) = false) (h' : List.lookup x l = some a) : List.lookup x ((y, b) :: l) = some a := by rw [List.lookup_cons, h]; exact h'
theorem ev_eq {c ρ e a b} (h : EvJ c ρ e a) (q : a = b) : EvJ c ρ e b := q ▸ h
theorem ts_eq {c ρ e a b} (h : TsJ c ρ e a) (q : a = b) : TsJ c ρ e b := q ▸ h
local macro_rules | `(tactic| walk_at "lk") => `(tactic| first
  | with_reducible exact lk_here
  | (refine' lk_next (by kernel_rfl) ?n; (case n => walk_at "lk")))
local macro_rules | `(tactic| walk_at "ev") => `(tactic| first
  | with_reducible exact ev_int
  | with_reducible exact ev_str
  | with_reducible exact ev_none
  | with_reducible exact ev_bool
  | ((with_reducible show EvJ _ _ (Expr.Name _ _) _); refine' ev_name ?l (Cx.Ok.kind (by assumption)) (kd (by assumption) (by kernel_rfl)) (by kernel_rfl); (case l => walk_at "lk"))
  | ((with_reducible show EvJ _ _ (Expr.BinOp _ _ _ _) _); refine' ev_bin (by assumption) ?l ?r ?o; (case l => walk_at "ev"); (case r => walk_at "ev"); (case o => walk_at "op"))
  | ((with_reducible show EvJ _ _ (Expr.Compare _ _ _ _) _); refine' ev_cmp (by assumption) ?l ?r ?o (by rfl); (case l => walk_at "ev"); (case r => walk_at "ev"); (case o => walk_at "op"))
  | exact ev_int
  | exact ev_str
  | exact ev_none
  | exact ev_bool
  | (refine' ev_name ?l (Cx.Ok.kind (by assumption)) (kd (by assumption) (by kernel_rfl)) (by kernel_rfl); (case l => walk_at "lk"))
  | (refine' ev_bin (by assumption) ?l ?r ?o; (case l => walk_at "ev"); (case r => walk_at "ev"); (case o => walk_at "op"))
  | (refine' ev_cmp (by assumption) ?l ?r ?o (by rfl); (case l => walk_at "ev"); (case r => walk_at "ev"); (case o => walk_at "op")))
local macro_rules | `(tactic| walk_at "bnd") => `(tactic| first | decide | assumption | (have := bitAnd_range (by assumption); omega))
local macro_rules | `(tactic| walk_at "op") => `(tactic| first
  | with_reducible exact op_and
  | with_reducible exact op_or
  | with_reducible exact op_xor
  | with_reducible exact op_add
  | with_reducible exact op_sub
  | (with_reducible refine' op_shr ?_; decide)
  | (with_reducible refine' op_shl ?_ ?_ ?b; decide; decide; (case b => walk_at "bnd"))
  | with_reducible exact op_lt
  | with_reducible exact op_eqi
  | with_reducible exact op_eqs)
local macro_rules | `(tactic| walk_at "ts") => `(tactic| first
  | (refine' ts_cmp (by assumption) ?l ?r ?o (by rfl); (case l => walk_at "ev"); (case r => walk_at "ev"); (case o => walk_at "op"))
  | (refine' ts_int ?e (by rfl); (case e => walk_at "ev")))
theorem and_small (a : Int) {m : Int} (h : 0 ≤ m) (h' : m < 2 ^ 64) : (Builtin.bitAnd a m).natAbs < 2 ^ 64 := by
  have := bitAnd_range a h; omega
local macro_rules | `(tactic| walk_at "bnd") => `(tactic| exact and_small _ (by decide) (by decide))
local macro_rules | `(tactic| walk_at "evq") => `(tactic| (refine' ev_eq ?e ?q; (case e => walk_at "ev"); (case q => rfl)))
local macro_rules | `(tactic| walk_at "tsq") => `(tactic| (refine' ts_eq ?e ?q; (case e => walk_at "ts"); (case q => rfl)))
noncomputable abbrev band := Builtin.bitAnd
noncomputable abbrev bor := Builtin.bitOr
noncomputable abbrev bxor := Builtin.bitXor
noncomputable def shr (n : Int) (k : Nat) : Int := n.fdiv (2 ^ k)
noncomputable def gbLow (n : Int) : Int := bor (bor (band (shr n 7) 1 * 2 ^ 11) (band (shr n 8) 15 * 2 ^ 1)) (band (shr n 25) 63 * 2 ^ 5)
noncomputable def gbF (n : Int) : Int := if shr n 31 != 0 then gbLow n - 4096 else gbLow n
theorem gb_body {c : Cx} {lev} (ok : c.Ok lev) (hs : c.scope = fnScope (astAt 30)) (n : Int) : BlJ c [(sO "word", .int n)] (fnBody (astAt 30)) (.ret (.int (gbF n))) := by
  refine' bl_cons (sm_assign ok ?a ?b ?c ?o) ?d
  case a => walk_at "ev"
  case b => exact kd hs (by kernel_rfl)
  case c => rfl
  case o => rfl
  case d =>
    refine' bl_ret (sm_return ?_)
    refine' ev_if ok (b := shr n 31 != 0) ?_ ?_ ?_
    · walk_at "tsq"
    · intro h
      rw [show gbF n = gbLow n - 4096 by unfold gbF; rw [if_pos h]]
      walk_at "evq"
    · intro h
      rw [show gbF n = gbLow n by unfold gbF; rw [h]; rfl]
      walk_at "evq"
noncomputable def EvsJ (c : Cx) (ρ : Loc) (es : List Expr) (as : List AV) : Prop := ∀ pos h tk Q E, St c ρ h →
  (∀ h' tk' vs, Kp c.fr h h' → Reps (vw h' c.X) vs as → Q vs (c.sh h' tk')) → wpAny c.M c.B (spliced (backTo pos (starEach es c.env))) Q E (c.sh h tk)
noncomputable def Cx.cc (c : Cx) : Cc := ⟨c.gd, c.B, c.env :: c.outer, c.X, c.g, c.d, c.os⟩
theorem Cx.Ok.cc {c : Cx} {lev} (ok : c.Ok (lev + 1)) : c.cc.Ok lev :=
  ⟨ok.gr, by show Option.map (fun x => c.env :: x) c.A.frames = _; rw [ok.stack]; rfl, by have := ok.depth; show c.A.depth + 1 + lev ≤ 900; omega, by have := ok.units; show c.A.units + 3 + 20 * lev ≤ 9000; omega, ok.hand, ok.frX, ok.hX⟩
theorem St.cc {c : Cx} {lev ρ h} (ok : c.Ok lev) (S : St c ρ h) : FrOk h (c.env :: c.outer) := fun env he => by
  rcases List.mem_cons.mp he with rfl | he
  · obtain ⟨m, ⟨o, es, ep, a, b, _⟩, _⟩ := S.ns
    exact ⟨by show c.scope.kind ≠ _; rw [ok.kind]; decide, c.L, o, es, ep, rfl, a, b⟩
  · exact S.frs env he
noncomputable def CaJ (c : Cx) (f : Value) (as : List AV) (r : AV) : Prop := ∀ ρ h tk Q E vs, St c ρ h → Reps (vw h c.X) vs as →
  (∀ h' tk' v, Kp c.fr h h' → Rep (vw h' c.X) v r → Q v (c.sh h' tk')) → wpAny c.M c.B (call f vs) Q E (c.sh h tk)
section
variable {c : Cx} {lev : Nat} {ρ : Loc}
theorem evs_nil : EvsJ c ρ [] [] := fun pos h tk Q E S k => args_nil (k _ _ _ .refl .nil)
theorem evs_cons {e es a as} (ok : c.Ok lev) (h1 : EvJ c ρ e a) (h2 : EvsJ c ρ es as) (he : starEach (e :: es) c.env = (false, eval e c.env) :: starEach es c.env) : EvsJ c ρ (e :: es) (a :: as) := fun pos h tk Q E S k =>
  args_cons (h1 h tk _ _ S fun h' tk' v k1 r1 => h2 pos _ _ _ _ (S.kp ok k1) fun h'' tk'' vs k2 rs => k _ _ _ (k1.trans k2) (.cons (r1.mono (k2.vle ok.frX)) rs)) he
theorem con_ca {f : Value} {as r} (ok : c.Ok (lev + 1)) (h : Con c.gd lev f as (.ok r)) : CaJ c f as r := fun ρ h' tk Q E vs S rs k =>
  wpAny_call (h c.cc h' tk vs _ rfl ok.cc (S.cc ok) S.keep S.xlt rs fun h'' tk' v k1 r1 => k _ _ _ k1 r1)
noncomputable def isFnK (K : Frag) (f : Addr) : Bool := match K.lookup f with | some ⟨_, _, .func _, _⟩ => true | _ => false
theorem fn_of {K : Frag} {f : Addr} (h : isFnK K f = true) : ∃ o fd, K.lookup f = some o ∧ o.data = .func fd := by
  unfold isFnK at h; split at h
  · exact ⟨_, _, by assumption, rfl⟩
  · cases h
theorem ev_call {fe : Expr} {f : Addr} {args as r p} (ok : c.Ok lev) (h1 : EvJ c ρ fe (.glob (.ref f))) (h2 : EvsJ c ρ args as) (h3 : CaJ c (.ref f) as r) (hf : isFnK (KK c.gd.w.params) f = true)
    (he : eval (.Call fe args [] p) c.env = (do callWith p (← eval fe c.env) [] (backTo p (starEach args c.env)) (backToKw p (keywordEach [] c.env))))
    (hs : (args = [] ∧ as = []) ∨ ∃ e es, args = e :: es ∧ starEach (e :: es) c.env = (false, eval e c.env) :: starEach es c.env) : EvJ c ρ (.Call fe args [] p) r := fun h tk Q E S k => by
  obtain ⟨o, fd, ho, hd⟩ := fn_of hf
  refine Call_ (h1 h tk _ _ S fun h' tk' v k1 r1 => ?_) he
  obtain rfl := r1.i
  have S1 := S.kp ok k1
  rcases hs with ⟨rfl, rfl⟩ | ⟨e, es, rfl, hs⟩
  · exact callWith_function (o := o) (fd := fd) (args := []) (PyProof.Rows.evalArgs_none ⟨⟨(S1.gr ok).kx _ _ ho, hd⟩, h3 ρ _ _ _ _ _ S1 .nil fun h3 tk3 v k3 r3 => k _ _ _ (k1.trans k3) r3⟩)
  · exact callWith_def hd (h2 p h' tk' _ _ S1 fun h'' tk'' vs k2 rs => ⟨((S1.kp ok k2).gr ok).kx _ _ ho, h3 ρ _ _ _ _ _ (S1.kp ok k2) rs fun h3 tk3 v k3 r3 => k _ _ _ ((k1.trans k2).trans k3) r3⟩) hs
theorem ev_callB {fe : Expr} {id : String} {e es as r p} (ok : c.Ok lev) (h1 : EvJ c ρ fe (.glob (.builtin id))) (h2 : EvsJ c ρ (e :: es) as) (h3 : CaJ c (.builtin id) as r)
    (he : eval (.Call fe (e :: es) [] p) c.env = (do callWith p (← eval fe c.env) [] (backTo p (starEach (e :: es) c.env)) (backToKw p (keywordEach [] c.env))))
    (hs : starEach (e :: es) c.env = (false, eval e c.env) :: starEach es c.env) (hp : (backTo p (starEach es c.env)).any (·.1) = false) : EvJ c ρ (.Call fe (e :: es) [] p) r := fun h tk Q E S k => by
  refine Call_ (h1 h tk _ _ S fun h' tk' v k1 r1 => ?_) he
  obtain rfl := r1.i
  have S1 := S.kp ok k1
  exact callWith_builtin1 (h2 p h' tk' _ _ S1 fun h'' tk'' vs k2 rs => h3 ρ _ _ _ _ _ (S1.kp ok k2) rs fun h3 tk3 v k3 r3 => k _ _ _ ((k1.trans k2).trans k3) r3) hs hp
theorem ev_callT {fe : Expr} {T : String} {e es as r p} (ok : c.Ok lev) (h1 : EvJ c ρ fe (.glob (.type T))) (h2 : EvsJ c ρ (e :: es) as) (h3 : CaJ c (.type T) as r)
    (he : eval (.Call fe (e :: es) [] p) c.env = (do callWith p (← eval fe c.env) [] (backTo p (starEach (e :: es) c.env)) (backToKw p (keywordEach [] c.env))))
    (hs : starEach (e :: es) c.env = (false, eval e c.env) :: starEach es c.env) (hp : (backTo p (starEach es c.env)).any (·.1) = false) : EvJ c ρ (.Call fe (e :: es) [] p) r := fun h tk Q E S k => by
  refine Call_ (h1 h tk _ _ S fun h' tk' v k1 r1 => ?_) he
  obtain rfl := r1.i
  have S1 := S.kp ok k1
  exact PyProof.Rows.callWith_type1 (h2 p h' tk' _ _ S1 fun h'' tk'' vs k2 rs => h3 ρ _ _ _ _ _ (S1.kp ok k2) rs fun h3 tk3 v k3 r3 => k _ _ _ ((k1.trans k2).trans k3) r3) hs hp
end
structure SR where
  addr : Addr
  name : Str
  kind : Str
  op : Int
  third : Int
  sev : Int
noncomputable def SH : List SR := [
  ⟨149, sO "lui", sO "U", 55, 0, 0⟩,
  ⟨152, sO "auipc", sO "U", 23, 0, 0⟩,
  ⟨155, sO "jal", sO "J", 111, 0, 0⟩,
  ⟨158, sO "jalr", sO "I", 103, 0, 0⟩,
  ⟨171, sO "beq", sO "B", 99, 0, 0⟩,
  ⟨178, sO "bne", sO "B", 99, 1, 0⟩,
  ⟨193, sO "blt", sO "B", 99, 4, 0⟩,
  ⟨200, sO "bge", sO "B", 99, 5, 0⟩,
  ⟨207, sO "bltu", sO "B", 99, 6, 0⟩,
  ⟨214, sO "bgeu", sO "B", 99, 7, 0⟩,
  ⟨228, sO "lb", sO "I", 3, 0, 0⟩,
  ⟨235, sO "lh", sO "I", 3, 1, 0⟩,
  ⟨242, sO "lw", sO "I", 3, 2, 0⟩,
  ⟨253, sO "lbu", sO "I", 3, 4, 0⟩,
  ⟨260, sO "lhu", sO "I", 3, 5, 0⟩,
  ⟨274, sO "sb", sO "S", 35, 0, 0⟩,
  ⟨281, sO "sh", sO "S", 35, 1, 0⟩,
  ⟨288, sO "sw", sO "S", 35, 2, 0⟩,
  ⟨302, sO "addi", sO "I", 19, 0, 0⟩,
  ⟨313, sO "slti", sO "I", 19, 2, 0⟩,
  ⟨320, sO "sltiu", sO "I", 19, 3, 0⟩,
  ⟨327, sO "xori", sO "I", 19, 4, 0⟩,
  ⟨338, sO "ori", sO "I", 19, 6, 0⟩,
  ⟨345, sO "andi", sO "I", 19, 7, 0⟩,
  ⟨363, sO "slli", sO "shift", 19, 1, 0⟩,
  ⟨382, sO "srli", sO "shift", 19, 5, 0⟩,
  ⟨416, sO "srai", sO "shift", 19, 5, 32⟩,
  ⟨430, sO "add", sO "R", 51, 0, 0⟩,
  ⟨437, sO "sll", sO "R", 51, 1, 0⟩,
  ⟨444, sO "slt", sO "R", 51, 2, 0⟩,
  ⟨451, sO "sltu", sO "R", 51, 3, 0⟩,
  ⟨458, sO "xor", sO "R", 51, 4, 0⟩,
  ⟨465, sO "srl", sO "R", 51, 5, 0⟩,
  ⟨472, sO "or", sO "R", 51, 6, 0⟩,
  ⟨479, sO "and", sO "R", 51, 7, 0⟩,
  ⟨493, sO "sub", sO "R", 51, 0, 32⟩,
  ⟨516, sO "sra", sO "R", 51, 5, 32⟩,
  ⟨530, sO "mul", sO "R", 51, 0, 1⟩,
  ⟨537, sO "mulh", sO "R", 51, 1, 1⟩,
  ⟨544, sO "mulhsu", sO "R", 51, 2, 1⟩,
  ⟨551, sO "mulhu", sO "R", 51, 3, 1⟩,
  ⟨558, sO "div", sO "R", 51, 4, 1⟩,
  ⟨565, sO "divu", sO "R", 51, 5, 1⟩,
  ⟨572, sO "rem", sO "R", 51, 6, 1⟩,
  ⟨579, sO "remu", sO "R", 51, 7, 1⟩,
  ⟨593, sO "fence", sO "fence", 15, 0, 0⟩,
  ⟨600, sO "fence.i", sO "fence", 15, 1, 0⟩,
  ⟨618, sO "csrrw", sO "CSR", 115, 1, 0⟩,
  ⟨625, sO "csrrs", sO "CSR", 115, 2, 0⟩,
  ⟨632, sO "csrrc", sO "CSR", 115, 3, 0⟩,
  ⟨666, sO "csrrwi", sO "CSRI", 115, 5, 0⟩,
  ⟨673, sO "csrrsi", sO "CSRI", 115, 6, 0⟩,
  ⟨680, sO "csrrci", sO "CSRI", 115, 7, 0⟩,
  ⟨685, sO "sfence.vma", sO "flush", 115, 0, 9⟩,
  ⟨698, sO "ecall", sO "system", 115, 0, 0⟩,
  ⟨704, sO "ebreak", sO "system", 1048691, 0, 0⟩,
  ⟨710, sO "sret", sO "system", 270532723, 0, 0⟩,
  ⟨716, sO "wfi", sO "system", 273678451, 0, 0⟩,
  ⟨722, sO "mret", sO "system", 807403635, 0, 0⟩]
noncomputable def noGetIn (K : Frag) (C : Addr) (name : Str) : Bool := match findIn K (.ref C) name with | some attr => noGet K attr | none => false
theorem noGetIn_of {K C name} (h : noGetIn K C name = true) : ∃ attr, findIn K (.ref C) name = some attr ∧ noGet K attr = true := by
  unfold noGetIn at h; split at h
  · exact ⟨_, by assumption, h⟩
  · cases h
noncomputable def attrK (K : Frag) (x : Addr) (name : Str) : Option Value := match K.lookup x with
  | some ⟨.ref C, some dx, .plain, sl⟩ => (match K.lookup dx with
      | some od => if plainGet K C name && hasDictIn K C && notCls ⟨.ref C, some dx, .plain, sl⟩ && noGetIn K C name then (match lookIn name od with
          | some (some v) => if handedIn v then some v else none
          | _ => none) else none
      | none => none)
  | _ => none
theorem attr_of {K : Frag} {x : Addr} {name : Str} {v : Value} {prog : Program} {w : World} {A : Around} {E : Value → Shared → Prop} {s : Shared} {expr : Bool} {Q : Value → Shared → Prop} (X : K.In s.heap) (e : attrK K x name = some v) (h : Q v { s with toks := s.toks + 1 }) :
    wpAny (model prog w) A (getAttr (.ref x) name expr) Q E s := by
  unfold attrK at e
  split at e
  · rename_i C dx sl hx
    split at e
    · rename_i od hd
      split at e
      · rename_i hc
        rw [Bool.and_eq_true, Bool.and_eq_true, Bool.and_eq_true] at hc
        obtain ⟨⟨⟨c1, c2⟩, c3⟩, c4⟩ := hc
        obtain ⟨attr, ha, c4⟩ := noGetIn_of c4
        split at e
        · rename_i u hl
          split at e
          · rename_i hh
            cases e
            exact get_value X ⟨X _ _ hx, rfl, c3, X _ _ hd⟩ (plainGet_of c1).1 (findObj_own c2 ha c4 hl) hh h
          · cases e
        · cases e
      · cases e
    · cases e
  · cases e
noncomputable def strIs (s : Str) : Option Value → Bool | some (.str x _) => x == s | _ => false
noncomputable def intIs (s : Int) : Option Value → Bool | some (.int x _) => x == s | _ => false
theorem strIs_of {s o} (h : strIs s o = true) : ∃ t, o = some (.str s t) := by
  unfold strIs at h; split at h
  · exact ⟨_, by rw [beq_iff_eq.mp h]⟩
  · cases h
theorem intIs_of {s o} (h : intIs s o = true) : ∃ t, o = some (.int s t) := by
  unfold intIs at h; split at h
  · exact ⟨_, by rw [beq_iff_eq.mp h]⟩
  · cases h
noncomputable def shOk (K : Frag) (r : SR) : Bool := strIs r.name (attrK K r.addr (sO "name")) && strIs r.kind (attrK K r.addr (sO "kind")) && intIs r.op (attrK K r.addr (sO "opcode")) && intIs r.third (attrK K r.addr (sO "third")) && intIs r.sev (attrK K r.addr (sO "seventh"))
theorem SH_ok (P : Params) : SH.all (shOk (KK P)) = true := by kernel_rfl
section
variable {c : Cx} {lev : Nat} {ρ : Loc}
theorem ev_attrS {x attr : Str} {xp p : Pos} {a : Addr} {s : Str} (ok : c.Ok lev) (h1 : EvJ c ρ (.Name x xp) (.glob (.ref a))) (h2 : strIs s (attrK (KK c.gd.w.params) a attr) = true)
    (he : eval (.Attribute (.Name x xp) attr p) c.env = (do let o ← eval (.Name x xp) c.env; standAt p.atName; let r ← holding [o] (getAttr o attr true); letTemporaryGo (.Name x xp) o r; pure r)) : EvJ c ρ (.Attribute (.Name x xp) attr p) (.str s) := fun h tk Q E S k => by
  obtain ⟨t, e⟩ := strIs_of h2
  refine Attribute_Name_ (h1 h tk _ _ S fun h' tk' v k1 r1 => ?_) he
  obtain rfl := r1.i
  exact attr_of ((S.kp ok k1).gr ok).kx e (k _ _ _ k1 .str)
theorem ev_attrI {x attr : Str} {xp p : Pos} {a : Addr} {s : Int} (ok : c.Ok lev) (h1 : EvJ c ρ (.Name x xp) (.glob (.ref a))) (h2 : intIs s (attrK (KK c.gd.w.params) a attr) = true)
    (he : eval (.Attribute (.Name x xp) attr p) c.env = (do let o ← eval (.Name x xp) c.env; standAt p.atName; let r ← holding [o] (getAttr o attr true); letTemporaryGo (.Name x xp) o r; pure r)) : EvJ c ρ (.Attribute (.Name x xp) attr p) (.int s) := fun h tk Q E S k => by
  obtain ⟨t, e⟩ := intIs_of h2
  refine Attribute_Name_ (h1 h tk _ _ S fun h' tk' v k1 r1 => ?_) he
  obtain rfl := r1.i
  exact attr_of ((S.kp ok k1).gr ok).kx e (k _ _ _ k1 .int)
theorem ev_attrC {x attr : Str} {xp p : Pos} {a : Addr} {v mc : Value} (ok : c.Ok lev) (h1 : EvJ c ρ (.Name x xp) (.glob (.ref a))) (hr : readsIn (KK c.gd.w.params) a mc = true) (hf : findCls (KK c.gd.w.params) (.ref a) mc attr = some (.val v)) (hh : handedIn v = true)
    (he : eval (.Attribute (.Name x xp) attr p) c.env = (do let o ← eval (.Name x xp) c.env; standAt p.atName; let r ← holding [o] (getAttr o attr true); letTemporaryGo (.Name x xp) o r; pure r)) : EvJ c ρ (.Attribute (.Name x xp) attr p) (.glob v) := fun h tk Q E S k => by
  refine Attribute_Name_ (h1 h tk _ _ S fun h' tk' u k1 r1 => ?_) he
  obtain rfl := r1.i
  exact cls_value ((S.kp ok k1).gr ok).kx hr hf hh (k _ _ _ k1 .glob)
end
theorem known_opc (P : Params) : readsIn (KK P) 981 (.type "type") = true ∧ findCls (KK P) (.ref 981) (.type "type") (sO "BY_OPCODE") = some (.val (.ref 732)) := ⟨by kernel_rfl, by kernel_rfl⟩
noncomputable def rawD (K : Frag) (a : Addr) : Option (List DictEntry) := match K.lookup a with
  | some ⟨.type "dict", none, .dict es _, sl⟩ => if sl.isEmpty then some es.toList else none
  | _ => none
theorem rawD_of {K : Frag} {a : Addr} {es : List DictEntry} {h : Heap} (X : K.In h) (e : rawD K a = some es) : ∃ o n, h.get? a = some o ∧ o.ExactDict ∧ o.data = .dict es.toArray n := by
  unfold rawD at e
  split at e
  · rename_i es' n sl hx
    split at e
    · rename_i q
      cases e
      exact ⟨_, n, X _ _ hx, ⟨rfl, rfl, by simpa using q⟩, rfl⟩
    · cases e
  · cases e
section
variable {prog : Program} {w : World} {KT : Type} [DecidableEq KT] {knd : KeyKind prog w KT}
inductive EntP (knd : KeyKind prog w KT) : List DictEntry → List (KT × Value) → Prop
  | nil : EntP knd [] []
  | cons {e k v es kvs} : knd.is k e.key = true → e.hash = knd.hash k → e.val = v → EntP knd es kvs → EntP knd (e :: es) ((k, v) :: kvs)
theorem EntP.keys {es : List DictEntry} {kvs : List (KT × Value)} (h : EntP knd es kvs) : ∀ e ∈ es, ∃ k, knd.is k e.key = true ∧ e.hash = knd.hash k := by
  induction h with
  | nil => intro e he; cases he
  | cons a b c d ih =>
    intro e he
    rcases List.mem_cons.mp he with rfl | he
    · exact ⟨_, a, b⟩
    · exact ih e he
theorem EntP.pairs : ∀ {es : List DictEntry} {kvs : List (KT × Value)}, EntP knd es kvs → Pairs knd es kvs
  | _, _, .nil => .nil
  | _, _, .cons a _ c r => .cons a c r.pairs
theorem dictOf_raw {K : Frag} {a : Addr} {es : List DictEntry} {h : Heap} {kvs : List (KT × Value)} (X : K.In h) (e : rawD K a = some es) (p : EntP knd es kvs) (hn : (kvs.map (·.1)).Nodup) : h.DictOf knd a kvs := by
  obtain ⟨o, n, ho, hx, hd⟩ := rawD_of X e
  exact ⟨o, _, n, ho, hx, hd, fun e he => p.keys e (by simpa using he), p.pairs, hn⟩
end
noncomputable def intEnt : List DictEntry → Option (List (Int × Value))
  | [] => some []
  | ⟨h, .int k _, v⟩ :: es => if h == hashInt k then (intEnt es).map ((k, v) :: ·) else none
  | _ => none
theorem intEnt_of {prog w} : ∀ {es : List DictEntry} {kvs}, intEnt es = some kvs → EntP (PySem.intKind prog w) es kvs
  | [], _, e => by cases e; exact .nil
  | ⟨h, .int k t, v⟩ :: es, kvs, e => by
    unfold intEnt at e
    split at e
    · rename_i q
      obtain ⟨l, e1, rfl⟩ := Option.map_eq_some_iff.mp e
      exact .cons (intKind_is prog w k t) (beq_iff_eq.mp q) rfl (intEnt_of e1)
    · cases e
  | ⟨h, .none, v⟩ :: es, kvs, e => by cases e
  | ⟨h, .bool _, v⟩ :: es, kvs, e => by cases e
  | ⟨h, .str _ _, v⟩ :: es, kvs, e => by cases e
  | ⟨h, .ref _, v⟩ :: es, kvs, e => by cases e
  | ⟨h, .float _ _, v⟩ :: es, kvs, e => by cases e
  | ⟨h, .bytes _ _, v⟩ :: es, kvs, e => by cases e
  | ⟨h, .type _, v⟩ :: es, kvs, e => by cases e
  | ⟨h, .builtin _, v⟩ :: es, kvs, e => by cases e
  | ⟨h, .ellipsis, v⟩ :: es, kvs, e => by cases e
  | ⟨h, .notImplemented, v⟩ :: es, kvs, e => by cases e
noncomputable def strEnt : List DictEntry → Option (List (Str × Value))
  | [] => some []
  | ⟨_, .str k _, v⟩ :: es => (strEnt es).map ((k, v) :: ·)
  | _ => none
theorem strEnt_of {prog w} : ∀ {es : List DictEntry} {kvs}, strEnt es = some kvs → es.map (·.hash) = kvs.map (fun p => (PySem.strKind prog w).hash p.1) → EntP (PySem.strKind prog w) es kvs
  | [], _, e, _ => by cases e; exact .nil
  | ⟨h, .str k t, v⟩ :: es, kvs, e, hh => by
    unfold strEnt at e
    obtain ⟨l, e1, rfl⟩ := Option.map_eq_some_iff.mp e
    simp only [List.map_cons, List.cons.injEq] at hh
    exact .cons (strKind_is prog w k t) hh.1 rfl (strEnt_of e1 hh.2)
  | ⟨h, .none, v⟩ :: es, kvs, e, _ => by cases e
  | ⟨h, .bool _, v⟩ :: es, kvs, e, _ => by cases e
  | ⟨h, .int _ _, v⟩ :: es, kvs, e, _ => by cases e
  | ⟨h, .ref _, v⟩ :: es, kvs, e, _ => by cases e
  | ⟨h, .float _ _, v⟩ :: es, kvs, e, _ => by cases e
  | ⟨h, .bytes _ _, v⟩ :: es, kvs, e, _ => by cases e
  | ⟨h, .type _, v⟩ :: es, kvs, e, _ => by cases e
  | ⟨h, .builtin _, v⟩ :: es, kvs, e, _ => by cases e
  | ⟨h, .ellipsis, v⟩ :: es, kvs, e, _ => by cases e
  | ⟨h, .notImplemented, v⟩ :: es, kvs, e, _ => by cases e
structure DI (K : Frag) (a : Addr) (kvs : List (Int × Value)) : Prop where
  ent : (rawD K a).bind intEnt = some kvs
  nd : (kvs.map (·.1)).Nodup
  ns : (a == sysModules) = false
structure DS (w : World) (K : Frag) (a : Addr) (kvs : List (Str × Value)) : Prop where
  ent : (rawD K a).bind strEnt = some kvs
  hs : (rawD K a).map (·.map (·.hash)) = some (kvs.map fun p => PyData.keyHash w.params p.1)
  nd : (kvs.map (·.1)).Nodup
  ns : (a == sysModules) = false
theorem DI.of {prog w K a kvs h} (D : DI K a kvs) (X : K.In h) : h.DictOf (PySem.intKind prog w) a kvs := by
  obtain ⟨es, e1, e2⟩ := Option.bind_eq_some_iff.mp D.ent
  exact dictOf_raw X e1 (intEnt_of e2) D.nd
theorem DS.of {prog w K a kvs h} (D : DS w K a kvs) (X : K.In h) : h.DictOf (PySem.strKind prog w) a kvs := by
  obtain ⟨es, e1, e2⟩ := Option.bind_eq_some_iff.mp D.ent
  have h2 := D.hs
  rw [e1] at h2
  exact dictOf_raw X e1 (strEnt_of e2 (Option.some.inj h2)) D.nd
theorem sub_tail {prog : Program} {w : World} {A : Around} {E : Value → Shared → Prop} {s : Shared} {value slice : Expr} {o i : Value} {T id : String} {ops : List Value} {Q : Value → Shared → Prop} (hT : s.TypeIs o T)
    (hl : typeLookup (.type T) "__getitem__" = pure (some (.builtin id))) (h : wpAny (model prog w) A (getItem o i) Q E s)
    (hs : subscripted slice false o i = operate ops (getItem o i)) :
    wpAny (model prog w) A (subscriptTail value slice o i) Q E s := by
  unfold subscriptTail
  refine wpAny_bind ?_
  rw [getitemInPython_of_ne hT.not_modules]
  refine wpAny_bind (wpAny_specialOf hT hl ?_)
  have fin : wpAny (model prog w) A (subscripted slice false o i) (fun r s₃ => wpAny (model prog w) A (letTemporaryGo value o r >>= fun _ => pure r) Q E s₃) E s := by
    rw [hs]
    exact wpAny_operating (wpAny_mono h (fun r s₃ h₃ => wpAny_bind (wpAny_letTemporaryGo (wpAny_pure h₃))) fun _ _ x => x)
  first
    | exact wpAny_pure (wpAny_bind fin)
    | exact wpAny_bind (wpAny_pure (wpAny_bind fin))
    | exact wpAny_bind fin
section
variable {c : Cx} {lev : Nat} {ρ : Loc}
theorem op_inI {k : Int} {a kvs} (ok : c.Ok lev) (D : DI (KK c.gd.w.params) a kvs) : OpJ c (compareOp .In) (.int k) (.glob (.ref a)) (.bool (valueAt kvs k).isSome) := fun ρ h tk Q E v u S r1 r2 q => by
  obtain ⟨_, rfl⟩ := r1.i; obtain rfl := r2.i
  exact wpAny_in_of (intKind_is _ _ _ _) D.ns (D.of (S.gr ok).kx).mapOf (q _ _ _ .refl .bool)
theorem op_inS {k : Str} {a kvs} (ok : c.Ok lev) (D : DS c.gd.w (KK c.gd.w.params) a kvs) : OpJ c (compareOp .In) (.str k) (.glob (.ref a)) (.bool (valueAt kvs k).isSome) := fun ρ h tk Q E v u S r1 r2 q => by
  obtain ⟨_, rfl⟩ := r1.i; obtain rfl := r2.i
  exact wpAny_in_of (strKind_is _ _ _ _) D.ns (D.of (S.gr ok).kx).mapOf (q _ _ _ .refl .bool)
theorem op_notinS {k : Str} {a kvs} (ok : c.Ok lev) (D : DS c.gd.w (KK c.gd.w.params) a kvs) : OpJ c (compareOp .NotIn) (.str k) (.glob (.ref a)) (.bool (!(valueAt kvs k).isSome)) := fun ρ h tk Q E v u S r1 r2 q => by
  obtain ⟨_, rfl⟩ := r1.i; obtain rfl := r2.i
  exact wpAny_notIn_of (strKind_is _ _ _ _) D.ns (D.of (S.gr ok).kx).mapOf (q _ _ _ .refl .bool)
noncomputable def SbJ (c : Cx) (value slice : Expr) (a i r : AV) : Prop := ∀ ρ h tk Q E v u, St c ρ h → Rep (vw h c.X) v a → Rep (vw h c.X) u i →
  (∀ h' tk' x, Kp c.fr h h' → Rep (vw h' c.X) x r → Q x (c.sh h' tk')) → wpAny c.M c.B (subscriptTail value slice v u) Q E (c.sh h tk)
theorem ev_sub {e i : Expr} {p a b x} (ok : c.Ok lev) (h1 : EvJ c ρ e a) (h2 : EvJ c ρ i b) (h3 : SbJ c e i a b x) : EvJ c ρ (.Subscript e i p) x := fun h tk Q E S k => by
  refine Subscript_ (h1 h tk _ _ S fun h' tk' v k1 r1 => ?_)
  have S1 := S.kp ok k1
  refine h2 h' tk' _ _ S1 fun h'' tk'' u k2 r2 => ?_
  exact h3 ρ h'' tk'' _ _ v u (S1.kp ok k2) (r1.mono (k2.vle ok.frX)) r2 fun h3 tk3 x k3 r3 => k _ _ _ ((k1.trans k2).trans k3) r3
theorem sb_DI {value slice : Expr} {k : Int} {a kvs v} (ok : c.Ok lev) (D : DI (KK c.gd.w.params) a kvs) (hv : valueAt kvs k = some v)
    (hs : ∀ a t, subscripted slice false (.ref a) (.int k t) = operate [.ref a, .int k t] (getItem (.ref a) (.int k t))) : SbJ c value slice (.glob (.ref a)) (.int k) (.glob v) := fun ρ h tk Q E v u S r1 r2 q => by
  obtain rfl := r1.i; obtain ⟨_, rfl⟩ := r2.i
  have hD := D.of (prog := PySem.Challenge.rw_nz0215_01.row.prog) (w := c.gd.w) (S.gr ok).kx
  exact sub_tail hD.typeIs slot_dict_getitem.lookup (wpAny_getItem_of (intKind_is _ _ _ _) hD.mapOf hv (q _ _ _ .refl .glob)) (hs _ _)
theorem sb_DS {value slice : Expr} {k : Str} {a kvs v} (ok : c.Ok lev) (D : DS c.gd.w (KK c.gd.w.params) a kvs) (hv : valueAt kvs k = some v)
    (hs : ∀ a t, subscripted slice false (.ref a) (.str k t) = operate [.ref a, .str k t] (getItem (.ref a) (.str k t))) : SbJ c value slice (.glob (.ref a)) (.str k) (.glob v) := fun ρ h tk Q E v u S r1 r2 q => by
  obtain rfl := r1.i; obtain ⟨_, rfl⟩ := r2.i
  have hD := D.of (prog := PySem.Challenge.rw_nz0215_01.row.prog) (w := c.gd.w) (S.gr ok).kx
  exact sub_tail hD.typeIs slot_dict_getitem.lookup (wpAny_getItem_of (strKind_is _ _ _ _) hD.mapOf hv (q _ _ _ .refl .glob)) (hs _ _)
end
noncomputable def kUJ (r : SR) : Bool := r.kind == sO "U" || r.kind == sO "J"
noncomputable def kThird (r : SR) : Bool := r.kind == sO "I" || r.kind == sO "S" || r.kind == sO "B" || r.kind == sO "fence" || r.kind == sO "CSR" || r.kind == sO "CSRI"
noncomputable def kSev (r : SR) : Bool := r.kind == sO "R" || r.kind == sO "shift" || r.kind == sO "flush"
noncomputable def kSys (r : SR) : Bool := r.kind == sO "system"
noncomputable def SR.fixed (r : SR) : Int := Builtin.bitOr (Builtin.bitOr (r.sev * 2 ^ 25) (r.third * 2 ^ 12)) r.op
noncomputable def tabOp : List (Int × Value) := (SH.filter kUJ).map fun r => (r.op, .ref r.addr)
noncomputable def tabThird : List (Int × Value) := (SH.filter kThird).map fun r => (r.fixed, .ref r.addr)
noncomputable def tabSev : List (Int × Value) := (SH.filter kSev).map fun r => (r.fixed, .ref r.addr)
noncomputable def tabSys : List (Int × Value) := (SH.filter kSys).map fun r => (r.op, .ref r.addr)
theorem di_op (P : Params) : DI (KK P) 732 tabOp := ⟨by kernel_rfl, by decide +kernel, by kernel_rfl⟩
theorem di_third (P : Params) : DI (KK P) 796 tabThird := ⟨by kernel_rfl, by decide +kernel, by kernel_rfl⟩
theorem di_sev (P : Params) : DI (KK P) 889 tabSev := ⟨by kernel_rfl, by decide +kernel, by kernel_rfl⟩
theorem di_sys (P : Params) : DI (KK P) 975 tabSys := ⟨by kernel_rfl, by decide +kernel, by kernel_rfl⟩
theorem ds_name (w : World) : DS w (KK w.params) 727 (SH.map fun r => (r.name, .ref r.addr)) := ⟨by kernel_rfl, by kernel_rfl, by decide +kernel, by kernel_rfl⟩
theorem valueAt_map {α : Type} (l : List α) (g : α → Int) (f : α → Value) (k : Int) : valueAt (l.map fun r => (g r, f r)) k = (l.find? fun r => g r = k).map f := by
  unfold valueAt
  induction l with
  | nil => rfl
  | cons a l ih =>
    rw [List.map_cons, List.find?_cons, List.find?_cons]
    by_cases h : g a = k
    · simp [h]
    · simp [h]; simpa using ih
theorem valueAt_mapS {α : Type} (l : List α) (g : α → Str) (f : α → Value) (k : Str) : valueAt (l.map fun r => (g r, f r)) k = (l.find? fun r => g r = k).map f := by
  unfold valueAt
  induction l with
  | nil => rfl
  | cons a l ih =>
    rw [List.map_cons, List.find?_cons, List.find?_cons]
    by_cases h : g a = k
    · simp [h]
    · simp [h]; simpa using ih
noncomputable abbrev srV (r : SR) : Value := .ref r.addr
noncomputable def srAV : Option SR → AV
  | none => .none
  | some r => .glob (srV r)
noncomputable def findOp (w : Int) : Option SR := (SH.filter kUJ).find? fun r => r.op = Builtin.bitAnd w 127
noncomputable def findThird (w : Int) : Option SR := (SH.filter kThird).find? fun r => r.fixed = Builtin.bitAnd w 28799
noncomputable def findSev (w : Int) : Option SR := (SH.filter kSev).find? fun r => r.fixed = Builtin.bitAnd w 4261441663
noncomputable def findSys (w : Int) : Option SR := (SH.filter kSys).find? fun r => r.op = w
noncomputable def flushBad (r : SR) (w : Int) : Bool := r.kind == sO "flush" && (Builtin.bitAnd (w.fdiv (2 ^ (7 : Int).toNat)) 31 != 0)
noncomputable def findS (w : Int) : Option SR := match findOp w with
  | some r => some r
  | none => match findThird w with
    | some r => some r
    | none => match findSev w with
      | some r => if flushBad r w then none else some r
      | none => findSys w
section
variable {c : Cx} {lev : Nat} {ρ : Loc}
theorem kn_attr {attr : Str} {xp p : Pos} {v : Value} (ok : c.Ok lev) (hf : findCls (KK c.gd.w.params) (.ref 981) (.type "type") attr = some (.val v)) (hh : handedIn v = true) (hx : c.env.kindOf (Str.ofString "Known") = some .globalImplicit)
    (he : eval (.Attribute (.Name (Str.ofString "Known") xp) attr p) c.env = (do let o ← eval (.Name (Str.ofString "Known") xp) c.env; standAt p.atName; let r ← holding [o] (getAttr o attr true); letTemporaryGo (.Name (Str.ofString "Known") xp) o r; pure r)) : EvJ c ρ (.Attribute (.Name (Str.ofString "Known") xp) attr p) (.glob v) :=
  ev_attrC ok (ev_global ok (by kernel_rfl) ok.kind hx (by kernel_rfl)) (known_opc _).1 hf hh he
theorem fc_op (P : Params) : findCls (KK P) (.ref 981) (.type "type") (Str.ofString "BY_OPCODE") = some (.val (.ref 732)) := by kernel_rfl
theorem fc_third (P : Params) : findCls (KK P) (.ref 981) (.type "type") (Str.ofString "BY_THIRD") = some (.val (.ref 796)) := by kernel_rfl
theorem fc_sev (P : Params) : findCls (KK P) (.ref 981) (.type "type") (Str.ofString "BY_SEVENTH") = some (.val (.ref 889)) := by kernel_rfl
theorem fc_sys (P : Params) : findCls (KK P) (.ref 981) (.type "type") (Str.ofString "WHOLE") = some (.val (.ref 975)) := by kernel_rfl
theorem fc_name (P : Params) : findCls (KK P) (.ref 981) (.type "type") (Str.ofString "BY_NAME") = some (.val (.ref 727)) := by kernel_rfl
theorem fc_shapes (P : Params) : findCls (KK P) (.ref 981) (.type "type") (Str.ofString "SHAPES") = some (.val (.ref 160)) := by kernel_rfl
theorem ev_dgetI {o e : Expr} {apos pos : Pos} {k : Int} {a kvs r} {pl : Sem Bool} (ok : c.Ok lev) (h1 : EvJ c ρ o (.glob (.ref a))) (h2 : EvsJ c ρ [e] [.int k]) (D : DI (KK c.gd.w.params) a kvs) (hr : r = (valueAt kvs k).elim AV.none AV.glob)
    (he : eval (.Call (.Attribute o "get" apos) [e] [] pos) c.env = (do
      let ov ← eval o c.env
      standAt apos.atName
      let (f, first) ← holding [ov] (getMethod ov "get" pl)
      callWith pos f first (backTo pos (starEach [e] c.env)) []))
    (hs : starEach (e :: []) c.env = (false, eval e c.env) :: starEach [] c.env) (hp : (backTo pos (starEach [] c.env)).any (·.1) = false) : EvJ c ρ (.Call (.Attribute o "get" apos) [e] [] pos) r := fun h tk Q E S kq => by
  refine MethodCall_ (h1 h tk _ _ S fun h' tk' v k1 r1 => ?_) he
  obtain rfl := r1.i
  have S1 := S.kp ok k1
  have hD := D.of (prog := PySem.Challenge.rw_nz0215_01.row.prog) (w := c.gd.w) (S1.gr ok).kx
  refine getMethod_builtin hD.typeIs PySem.F.plainAttrs_dict PySem.F.slot_dict_get PySem.F.type_dict_get hD.mapOf.noDict ?_
  refine callWith_method1 (h2 pos h' tk' _ _ S1 fun h'' tk'' vs k2 rs => ?_) hs hp
  cases rs with
  | cons r rs =>
    obtain rfl := rs.i; obtain ⟨_, rfl⟩ := r.i
    have hD2 := D.of (prog := PySem.Challenge.rw_nz0215_01.row.prog) (w := c.gd.w) ((S1.kp ok k2).gr ok).kx
    refine call_meetsIn PySem.F.slot_dict_get hD2.typeIs PySem.F.entry_dict_get (PySem.F.args_dict_get_2 _ _) (meets_dict_get (PySem.intKind _ _) a (intKind_is _ _ _ _) D.ns) ⟨_, hD2.mapOf, ?_⟩
    refine kq h'' _ _ (k1.trans k2) ?_
    rw [hr]
    cases valueAt kvs k with
    | none => exact .none
    | some v => exact .glob
end
theorem kn_op {c : Cx} {lev : Nat} {ρ : Loc} {sc : Scope} {xp p : Pos} (ok : c.Ok lev) (hs : c.scope = sc) (hk : sc.names.lookup (Str.ofString "Known") = some .globalImplicit)
    (he : eval (.Attribute (.Name (Str.ofString "Known") xp) (Str.ofString "BY_OPCODE") p) c.env = (do let o ← eval (.Name (Str.ofString "Known") xp) c.env; standAt p.atName; let r ← holding [o] (getAttr o (Str.ofString "BY_OPCODE") true); letTemporaryGo (.Name (Str.ofString "Known") xp) o r; pure r)) : EvJ c ρ (.Attribute (.Name (Str.ofString "Known") xp) (Str.ofString "BY_OPCODE") p) (.glob (.ref 732)) :=
  kn_attr ok (fc_op _) rfl (kd hs hk) he
theorem kn_third {c : Cx} {lev : Nat} {ρ : Loc} {sc : Scope} {xp p : Pos} (ok : c.Ok lev) (hs : c.scope = sc) (hk : sc.names.lookup (Str.ofString "Known") = some .globalImplicit)
    (he : eval (.Attribute (.Name (Str.ofString "Known") xp) (Str.ofString "BY_THIRD") p) c.env = (do let o ← eval (.Name (Str.ofString "Known") xp) c.env; standAt p.atName; let r ← holding [o] (getAttr o (Str.ofString "BY_THIRD") true); letTemporaryGo (.Name (Str.ofString "Known") xp) o r; pure r)) : EvJ c ρ (.Attribute (.Name (Str.ofString "Known") xp) (Str.ofString "BY_THIRD") p) (.glob (.ref 796)) :=
  kn_attr ok (fc_third _) rfl (kd hs hk) he
theorem kn_sev {c : Cx} {lev : Nat} {ρ : Loc} {sc : Scope} {xp p : Pos} (ok : c.Ok lev) (hs : c.scope = sc) (hk : sc.names.lookup (Str.ofString "Known") = some .globalImplicit)
    (he : eval (.Attribute (.Name (Str.ofString "Known") xp) (Str.ofString "BY_SEVENTH") p) c.env = (do let o ← eval (.Name (Str.ofString "Known") xp) c.env; standAt p.atName; let r ← holding [o] (getAttr o (Str.ofString "BY_SEVENTH") true); letTemporaryGo (.Name (Str.ofString "Known") xp) o r; pure r)) : EvJ c ρ (.Attribute (.Name (Str.ofString "Known") xp) (Str.ofString "BY_SEVENTH") p) (.glob (.ref 889)) :=
  kn_attr ok (fc_sev _) rfl (kd hs hk) he
theorem kn_sys {c : Cx} {lev : Nat} {ρ : Loc} {sc : Scope} {xp p : Pos} (ok : c.Ok lev) (hs : c.scope = sc) (hk : sc.names.lookup (Str.ofString "Known") = some .globalImplicit)
    (he : eval (.Attribute (.Name (Str.ofString "Known") xp) (Str.ofString "WHOLE") p) c.env = (do let o ← eval (.Name (Str.ofString "Known") xp) c.env; standAt p.atName; let r ← holding [o] (getAttr o (Str.ofString "WHOLE") true); letTemporaryGo (.Name (Str.ofString "Known") xp) o r; pure r)) : EvJ c ρ (.Attribute (.Name (Str.ofString "Known") xp) (Str.ofString "WHOLE") p) (.glob (.ref 975)) :=
  kn_attr ok (fc_sys _) rfl (kd hs hk) he
theorem kn_name {c : Cx} {lev : Nat} {ρ : Loc} {sc : Scope} {xp p : Pos} (ok : c.Ok lev) (hs : c.scope = sc) (hk : sc.names.lookup (Str.ofString "Known") = some .globalImplicit)
    (he : eval (.Attribute (.Name (Str.ofString "Known") xp) (Str.ofString "BY_NAME") p) c.env = (do let o ← eval (.Name (Str.ofString "Known") xp) c.env; standAt p.atName; let r ← holding [o] (getAttr o (Str.ofString "BY_NAME") true); letTemporaryGo (.Name (Str.ofString "Known") xp) o r; pure r)) : EvJ c ρ (.Attribute (.Name (Str.ofString "Known") xp) (Str.ofString "BY_NAME") p) (.glob (.ref 727)) :=
  kn_attr ok (fc_name _) rfl (kd hs hk) he
theorem kn_shapes {c : Cx} {lev : Nat} {ρ : Loc} {sc : Scope} {xp p : Pos} (ok : c.Ok lev) (hs : c.scope = sc) (hk : sc.names.lookup (Str.ofString "Known") = some .globalImplicit)
    (he : eval (.Attribute (.Name (Str.ofString "Known") xp) (Str.ofString "SHAPES") p) c.env = (do let o ← eval (.Name (Str.ofString "Known") xp) c.env; standAt p.atName; let r ← holding [o] (getAttr o (Str.ofString "SHAPES") true); letTemporaryGo (.Name (Str.ofString "Known") xp) o r; pure r)) : EvJ c ρ (.Attribute (.Name (Str.ofString "Known") xp) (Str.ofString "SHAPES") p) (.glob (.ref 160)) :=
  kn_attr ok (fc_shapes _) rfl (kd hs hk) he
local macro_rules | `(tactic| walk_at "ev") => `(tactic| first
  | ((with_reducible refine' kn_op (by assumption) (by assumption) ?k ?e); (case k => kernel_rfl); (case e => rfl))
  | ((with_reducible refine' kn_third (by assumption) (by assumption) ?k ?e); (case k => kernel_rfl); (case e => rfl))
  | ((with_reducible refine' kn_sev (by assumption) (by assumption) ?k ?e); (case k => kernel_rfl); (case e => rfl))
  | ((with_reducible refine' kn_sys (by assumption) (by assumption) ?k ?e); (case k => kernel_rfl); (case e => rfl))
  | ((with_reducible refine' kn_name (by assumption) (by assumption) ?k ?e); (case k => kernel_rfl); (case e => rfl))
  | ((with_reducible refine' kn_shapes (by assumption) (by assumption) ?k ?e); (case k => kernel_rfl); (case e => rfl)))
local macro_rules | `(tactic| walk_at "op") => `(tactic| first
  | with_reducible exact op_inI (by assumption) (di_op _)
  | with_reducible exact op_inI (by assumption) (di_third _)
  | with_reducible exact op_inI (by assumption) (di_sev _)
  | with_reducible exact op_inS (by assumption) (ds_name _))
theorem sb_DI_l {c : Cx} {lev : Nat} {value slice : Expr} {k : Int} {a : Addr} {l : List SR} {g : SR → Int} {r : SR} (ok : c.Ok lev) (D : DI (KK c.gd.w.params) a (l.map fun r => (g r, srV r))) (hv : (l.find? fun r => g r = k) = some r)
    (hs : ∀ a t, subscripted slice false (.ref a) (.int k t) = operate [.ref a, .int k t] (getItem (.ref a) (.int k t))) : SbJ c value slice (.glob (.ref a)) (.int k) (.glob (srV r)) :=
  sb_DI ok D (by rw [valueAt_map, hv]; rfl) hs
theorem in_l {l : List SR} {g : SR → Int} {k : Int} : (valueAt (l.map fun r => (g r, srV r)) k).isSome = (l.find? fun r => g r = k).isSome := by
  rw [valueAt_map]; cases (l.find? fun r => g r = k) <;> rfl
theorem sh_split {K : Frag} {r : SR} (h : shOk K r = true) : strIs r.name (attrK K r.addr (sO "name")) = true ∧ strIs r.kind (attrK K r.addr (sO "kind")) = true ∧ intIs r.op (attrK K r.addr (sO "opcode")) = true ∧ intIs r.third (attrK K r.addr (sO "third")) = true ∧ intIs r.sev (attrK K r.addr (sO "seventh")) = true := by
  unfold shOk at h
  rw [Bool.and_eq_true, Bool.and_eq_true, Bool.and_eq_true, Bool.and_eq_true] at h
  exact ⟨h.1.1.1.1, h.1.1.1.2, h.1.1.2, h.1.2, h.2⟩
theorem sh_kind {K : Frag} {r : SR} (h : shOk K r = true) : strIs r.kind (attrK K r.addr (sO "kind")) = true := (sh_split h).2.1
theorem fs_body {c : Cx} {lev} (ok : c.Ok lev) (hs : c.scope = fnScope (astAt 32)) (w : Int) : BlJ c [(sO "word", .int w)] (fnBody (astAt 32)) (.ret (srAV (findS w))) := by
  refine' bl_cons (sm_assign ok ?a ?b ?c ?o) ?d
  case a => walk_at "ev"
  case b => exact kd hs (by kernel_rfl)
  case c => rfl
  case o => rfl
  case d =>
  refine' bl_if ok (b := (findOp w).isSome) ?t (fun _ => rfl) ?x ?y
  case t => refine' ts_eq ?e ?q; (case e => walk_at "ts"); (case q => exact in_l)
  case x =>
    intro hb
    obtain ⟨r, hr⟩ := Option.isSome_iff_exists.mp hb
    rw [show findS w = some r by unfold findS; rw [hr]]
    refine' bl_ret (sm_return (ev_sub ok ?e1 ?e2 ?e3))
    case e1 => walk_at "ev"
    case e2 => walk_at "ev"
    case e3 => exact sb_DI_l ok (di_op _) hr (fun _ _ => rfl)
  case y =>
  intro h1
  have h1 : findOp w = none := by simpa using h1
  refine' bl_cons (sm_assign ok ?a1 ?b1 ?c1 ?o1) ?d1
  case a1 => walk_at "ev"
  case b1 => exact kd hs (by kernel_rfl)
  case c1 => rfl
  case o1 => rfl
  case d1 =>
  refine' bl_if ok (b := (findThird w).isSome) ?t1 (fun _ => rfl) ?x1 ?y1
  case t1 => refine' ts_eq ?e ?q; (case e => walk_at "ts"); (case q => exact in_l)
  case x1 =>
    intro hb
    obtain ⟨r, hr⟩ := Option.isSome_iff_exists.mp hb
    rw [show findS w = some r by unfold findS; rw [h1, hr]]
    refine' bl_ret (sm_return (ev_sub ok ?e1 ?e2 ?e3))
    case e1 => walk_at "ev"
    case e2 => walk_at "ev"
    case e3 => exact sb_DI_l ok (di_third _) hr (fun _ _ => rfl)
  case y1 =>
  intro h2
  have h2 : findThird w = none := by simpa using h2
  refine' bl_cons (sm_assign ok ?a2 ?b2 ?c2 ?o2) ?d2
  case a2 => walk_at "ev"
  case b2 => exact kd hs (by kernel_rfl)
  case c2 => rfl
  case o2 => rfl
  case d2 =>
  refine' bl_if ok (b := (findSev w).isSome) ?t2 (fun _ => rfl) ?x2 ?y2
  case t2 => refine' ts_eq ?e ?q; (case e => walk_at "ts"); (case q => exact in_l)
  case x2 =>
    intro hb
    obtain ⟨r, hr⟩ := Option.isSome_iff_exists.mp hb
    have hm : r ∈ SH := (List.mem_filter.mp (List.mem_of_find?_eq_some hr)).1
    have hok := List.all_eq_true.mp (SH_ok c.gd.w.params) r hm
    refine' bl_cons (sm_assign ok (ev_sub ok ?e1 ?e2 ?e3) ?b3 ?c3 ?o3) ?d3
    case e1 => walk_at "ev"
    case e2 => walk_at "ev"
    case e3 => exact sb_DI_l ok (di_sev _) hr (fun _ _ => rfl)
    case b3 => exact kd hs (by kernel_rfl)
    case c3 => rfl
    case o3 => rfl
    case d3 =>
    refine' bl_ret (sm_return (ev_if ok (b := flushBad r w) ?t4 ?x4 ?y4))
    case t4 =>
      refine' ts_eq (ts_boolop (ta_and ok ?t5 (fun _ => ta_and ok ?t6 (fun _ => ta_and_nil)))) ?q5
      case t5 =>
        refine' ts_cmp ok (ev_attrS (s := r.kind) (a := r.addr) ok ?f1 ?f2 rfl) ?f3 op_eqs rfl
        case f1 => walk_at "evq"
        case f2 => exact sh_kind hok
        case f3 => walk_at "ev"
      case t6 => walk_at "ts"
      case q5 => rw [Bool.and_true]; rfl
    case x4 =>
      intro hf
      rw [show findS w = none by unfold findS; rw [h1, h2, hr]; exact if_pos hf]
      exact ev_none
    case y4 =>
      intro hf
      rw [show findS w = some r by unfold findS; rw [h1, h2, hr]; exact if_neg (by rw [hf]; decide)]
      walk_at "evq"
  case y2 =>
  intro h3
  have h3 : findSev w = none := by simpa using h3
  rw [show findS w = findSys w by unfold findS; rw [h1, h2, h3]]
  refine' bl_ret (sm_return (ev_dgetI ok ?g1 ?g2 (di_sys _) ?g3 rfl rfl rfl))
  case g1 => walk_at "ev"
  case g2 => refine' evs_cons ok ?_ evs_nil rfl; walk_at "ev"
  case g3 => unfold tabSys; rw [valueAt_map]; unfold findSys; cases ((SH.filter kSys).find? fun r => r.op = w) <;> rfl
theorem len1 {α : Type} {vs : List α} (h : vs.length = 1) : ∃ a, vs = [a] := by
  match vs, h with | [a], _ => exact ⟨a, rfl⟩
theorem len2 {α : Type} {vs : List α} (h : vs.length = 2) : ∃ a b, vs = [a, b] := by
  match vs, h with | [a, b], _ => exact ⟨a, b, rfl⟩
section
noncomputable def gjLow (n : Int) : Int := bor (bor (band (shr n 12) 255 * 2 ^ 12) (band (shr n 20) 1 * 2 ^ 11)) (band (shr n 21) 1023 * 2 ^ 1)
noncomputable def gjF (n : Int) : Int := if shr n 31 != 0 then gjLow n - 1048576 else gjLow n
theorem gj_body {c : Cx} {lev} (ok : c.Ok lev) (hs : c.scope = fnScope (astAt 31)) (n : Int) : BlJ c [(sO "word", .int n)] (fnBody (astAt 31)) (.ret (.int (gjF n))) := by
  refine' bl_cons (sm_assign ok ?a ?b ?c ?o) ?d
  case a => walk_at "ev"
  case b => exact kd hs (by kernel_rfl)
  case c => rfl
  case o => rfl
  case d =>
    refine' bl_ret (sm_return ?_)
    refine' ev_if ok (b := shr n 31 != 0) ?_ ?_ ?_
    · walk_at "tsq"
    · intro h
      rw [show gjF n = gjLow n - 1048576 by unfold gjF; rw [if_pos h]]
      walk_at "evq"
    · intro h
      rw [show gjF n = gjLow n by unfold gjF; rw [h]; rfl]
      walk_at "evq"
noncomputable def sbF (n : Int) : Int := bor (bor (bor (band (shr n 12) 1 * 2 ^ 31) (band (shr n 5) 63 * 2 ^ 25)) (band (shr n 1) 15 * 2 ^ 8)) (band (shr n 11) 1 * 2 ^ 7)
theorem sb_body {c : Cx} {lev} (ok : c.Ok lev) (hs : c.scope = fnScope (astAt 27)) (n : Int) : BlJ c [(sO "imm", .int n)] (fnBody (astAt 27)) (.ret (.int (sbF n))) := by
  refine' bl_ret (sm_return ?_)
  walk_at "evq"
noncomputable def sjF (n : Int) : Int := bor (bor (bor (band (shr n 20) 1 * 2 ^ 31) (band (shr n 1) 1023 * 2 ^ 21)) (band (shr n 11) 1 * 2 ^ 20)) (band (shr n 12) 255 * 2 ^ 12)
theorem sj_body {c : Cx} {lev} (ok : c.Ok lev) (hs : c.scope = fnScope (astAt 28)) (n : Int) : BlJ c [(sO "imm", .int n)] (fnBody (astAt 28)) (.ret (.int (sjF n))) := by
  refine' bl_ret (sm_return ?_)
  walk_at "evq"
end
theorem con_gb (gd : Gd) (lev : Nat) (n : Int) : Con gd (lev + 1) (.ref 1059) [.int n] (.ok (.int (gbF n))) :=
  con_fn (as := [.int n]) (out := .ret (.int (gbF n))) [sO "word"] (show (KK gd.w.params).lookup 1059 = some (o1059 gd.w.params) by kernel_rfl) (by kernel_rfl)
    (fun s vs hl _ => by obtain ⟨a0, rfl⟩ := len1 hl; exact .of_eq (by kernel_rfl)) (by decide +kernel)
    (fun c hg ok hs hn => gb_body ok hs n) (by kernel_rfl) (by kernel_rfl) (by kernel_rfl) (by decide +kernel)
theorem con_gj (gd : Gd) (lev : Nat) (n : Int) : Con gd (lev + 1) (.ref 1066) [.int n] (.ok (.int (gjF n))) :=
  con_fn (as := [.int n]) (out := .ret (.int (gjF n))) [sO "word"] (show (KK gd.w.params).lookup 1066 = some (o1066 gd.w.params) by kernel_rfl) (by kernel_rfl)
    (fun s vs hl _ => by obtain ⟨a0, rfl⟩ := len1 hl; exact .of_eq (by kernel_rfl)) (by decide +kernel)
    (fun c hg ok hs hn => gj_body ok hs n) (by kernel_rfl) (by kernel_rfl) (by kernel_rfl) (by decide +kernel)
theorem con_sb (gd : Gd) (lev : Nat) (n : Int) : Con gd (lev + 1) (.ref 1038) [.int n] (.ok (.int (sbF n))) :=
  con_fn (as := [.int n]) (out := .ret (.int (sbF n))) [sO "imm"] (show (KK gd.w.params).lookup 1038 = some (o1038 gd.w.params) by kernel_rfl) (by kernel_rfl)
    (fun s vs hl _ => by obtain ⟨a0, rfl⟩ := len1 hl; exact .of_eq (by kernel_rfl)) (by decide +kernel)
    (fun c hg ok hs hn => sb_body ok hs n) (by kernel_rfl) (by kernel_rfl) (by kernel_rfl) (by decide +kernel)
theorem con_sj (gd : Gd) (lev : Nat) (n : Int) : Con gd (lev + 1) (.ref 1045) [.int n] (.ok (.int (sjF n))) :=
  con_fn (as := [.int n]) (out := .ret (.int (sjF n))) [sO "imm"] (show (KK gd.w.params).lookup 1045 = some (o1045 gd.w.params) by kernel_rfl) (by kernel_rfl)
    (fun s vs hl _ => by obtain ⟨a0, rfl⟩ := len1 hl; exact .of_eq (by kernel_rfl)) (by decide +kernel)
    (fun c hg ok hs hn => sj_body ok hs n) (by kernel_rfl) (by kernel_rfl) (by kernel_rfl) (by decide +kernel)
theorem con_fs (gd : Gd) (lev : Nat) (w : Int) : Con gd (lev + 1) (.ref 1073) [.int w] (.ok (srAV (findS w))) :=
  con_fn (as := [.int w]) (out := .ret (srAV (findS w))) [sO "word"] (show (KK gd.w.params).lookup 1073 = some (o1073 gd.w.params) by kernel_rfl) (by kernel_rfl)
    (fun s vs hl _ => by obtain ⟨a0, rfl⟩ := len1 hl; exact .of_eq (by kernel_rfl)) (by decide +kernel)
    (fun c hg ok hs hn => fs_body ok hs w) (by kernel_rfl) (by kernel_rfl) (by kernel_rfl) (by decide +kernel)
theorem vw_get {h : Heap} {X : List Addr} {a : Addr} {o : Obj} (e : h.get? a = some o) (n : a ∉ X) : vw h X a = some o := by
  unfold vw; rw [if_neg n]; exact e
noncomputable def instB (x : Value) (v0 v1 v2 v3 v4 v5 : Value) : List (Str × Value) := [(sO "self", x), (sO "name", v0), (sO "rd", v1), (sO "rs1", v2), (sO "rs2", v3), (sO "imm", v4), (sO "csr", v5)]
section
variable {w : World} {A : Around} {E : Value → Shared → Prop} {h₀ h : Heap} {g : Array GenState} {d : Drawn} {tk : Nat} {os : OsState} {L x dx C fa : Addr} {m : Str → Option Value} {es : List DictEntry} {n : Nat} {attr y : Str} {v : Value} {p1 p2 p3 p4 : Pos} {rest : List Stmt} {Q : Flow → Shared → Prop} {K : Frag} {name : Str} {scope : Scope} {cd : Value}
theorem init_step (F : Fr h₀ L h m) (X₀ : K.In h₀) (N : News h₀ L h [(x, instObj C dx), (dx, dictOf es n)]) (hne : x ≠ dx) (hs : findIn K (.ref C) "__setattr__" = some (some (.builtin "object.__setattr__"))) (hp : plainOver K C = true) (ht : takerIn K C attr = some none) (hh : hasDictIn K C = true)
    (hl : (getL attr es).isSome = true) (hz : (putL attr (PyData.keyHash w.params attr) (.str attr (tk + 1)) v es).length ≤ 1000)
    (hv : m y = some v) (hself : m (Str.ofString "self") = some (.ref x)) (hk : scope.kind = .function) (hy : (envOf name scope L fa cd).kindOf y = some .local) (hy' : (y == ("__debug__" : Str)) = false) (hsl : (envOf name scope L fa cd).kindOf (Str.ofString "self") = some .local)
    (hsw : swapsWith (.Name y p3) (some (.Attribute (.Name (Str.ofString "self") p1) attr p2)) p4.line (envOf name scope L fa cd) = pure false)
    (k : ∀ h', Fr h₀ L h' m → News h₀ L h' [(x, instObj C dx), (dx, dictOf (putL attr (PyData.keyHash w.params attr) (.str attr (tk + 1)) v es) (putN attr es n))] → wpAny (MW w) A (execs rest (envOf name scope L fa cd)) Q E ⟨h', g, d, tk + 2, os⟩) :
    wpAny (MW w) A (execs (.Assign [.Attribute (.Name (Str.ofString "self") p1) attr p2] (.Name y p3) p4 :: rest) (envOf name scope L fa cd)) Q E ⟨h, g, d, tk, os⟩ := by
  refine wpAny_execs_cons (plainObj_wpAny_Assign_Attribute (ld F hv (ld F hself ?_ hk hsl (by decide)) hk hy hy') hsw)
  exact set_dict (s := ⟨h, g, d, tk, os⟩) F X₀ N (InstAt.of_news N (.head _) (.tail _ (.head _))) rfl hs hp ht hh hl rfl (.tail hne (.head (fun _ h => nomatch h))) hz fun h' F' N' => k h' F' N'
end
noncomputable abbrev pu (P : Params) (a : Str) (t : Tok) (v : Value) (es : List DictEntry) : List DictEntry := putL a (PyData.keyHash P a) (.str a t) v es
theorem inst_make {w : World} {mg mb : Str → Option Value} {A : Around} {h : Heap} {g : Array GenState} {d : Drawn} {tk : Nat} {os : OsState} {R : PySem.Result → Shared → Prop} {vs : List Value} {nm : Str} {rd rs1 rs2 imm csr : Int} {t0 t1 t2 t3 t4 t5 : Tok}
    (G : Gr w mg mb h) (hd : A.depth ≤ 900)
    (hb : ∀ x s, (KK w.params).In s.heap → BindsTo s (fnOf (sO "__init__") (sO "Instruction.__init__") (fnParams (astIn 16 0)) (fnBody (astIn 16 0)) (fnScope (astIn 16 0)) (.ref 74) .none .none (.str (sO "pipeboard.isa") 258) none (.ref 80) .none) ⟨x :: vs, []⟩ (instB x (.str nm t0) (.int rd t1) (.int rs1 t2) (.int rs2 t3) (.int imm t4) (.int csr t5)))
    (k : ∀ h' tk', Kp [] h h' → (∀ X : List Addr, (∀ a ∈ X, a < h.objs.size) → Rep (vw h' X) (.ref (h.objs.size + 1)) (.inst nm rd rs1 rs2 imm csr)) → R (.ok (.ret (.ref (h.objs.size + 1)))) ⟨h', g, d, tk', os⟩) :
    codeAny (MW w) A (.call (.ref 91) ⟨vs, []⟩) R ⟨h, g, d, tk, os⟩ := by
  refine make_core (makes_of G.kx (by kernel_rfl)) (looks_findIn (r := some (.ref 81)) G.kx (by kernel_rfl)) (fun self => bind_fn G.kx self (by kernel_rfl)) (.inl (by kernel_rfl)) ?_
  have k2 : ∀ b o, h.get? b = some o → ((h.push emptyDict).push (instObj 91 h.objs.size)).get? b = some o := fun b o e => Heap.get?_push_of_some _ (Heap.get?_push_of_some _ e)
  have G2 := G.keeps k2
  refine codeAny_call_def (fd := fnOf (sO "__init__") (sO "Instruction.__init__") (fnParams (astIn 16 0)) (fnBody (astIn 16 0)) (fnScope (astIn 16 0)) (.ref 74) .none .none (.str (sO "pipeboard.isa") 258) none (.ref 80) .none) (binds := instB (.ref (h.objs.size + 1)) (.str nm t0) (.int rd t1) (.int rs1 t2) (.int rs2 t3) (.int imm t4) (.int csr t5)) ?_ (G2.kx _ _ (show (KK w.params).lookup 81 = some (o81 w.params) by kernel_rfl)) rfl G2.nolimit (codeRec_of G2.kx (by kernel_rfl)) rfl (hb _ _ G2.kx) (by decide +kernel) (fun y hy => (show ∀ z ∈ [sO "self", sO "name", sO "rd", sO "rs1", sO "rs2", sO "imm", sO "csr"], (fnScope (astIn 16 0)).names.lookup z = some .local by decide +kernel) y.1 (List.mem_map_of_mem (f := Prod.fst) hy)) (fun h₁ hns hk₁ => ?_) (by kernel_rfl) (by kernel_rfl) (by kernel_rfl)
  · show A.depth + 1 < 1000
    omega
  have sz : ((h.push emptyDict).push (instObj 91 h.objs.size)).objs.size = h.objs.size + 2 := by rw [Heap.size_push, Heap.size_push]
  have hx := hk₁ (h.objs.size + 1) (instObj 91 h.objs.size) (by show ((h.push emptyDict).push _).get? _ = _; rw [show h.objs.size + 1 = (h.push emptyDict).objs.size by rw [Heap.size_push]]; exact Heap.get?_push_size _ rfl)
  have hdx := hk₁ h.objs.size (dictOf [] 0) (Heap.get?_push_of_some _ (Heap.get?_push_size _ rfl))
  have nw : ∀ n, h.objs.size ≤ n → h.get? n = none := fun n hn => by
    cases q : h.get? n with
    | none => rfl
    | some o => exact absurd (Heap.lt_size q) (Nat.not_lt.mpr hn)
  have F : Fr h ((h.push emptyDict).push (instObj 91 h.objs.size)).objs.size h₁ _ := ⟨hns, fun b o e => hk₁ b o (k2 b o e), by rw [sz]; omega⟩
  have N : News h ((h.push emptyDict).push (instObj 91 h.objs.size)).objs.size h₁ [(h.objs.size + 1, instObj 91 h.objs.size), (h.objs.size, dictOf [] 0)] := fun p hp => by
    rcases List.mem_cons.mp hp with rfl | hp
    · exact ⟨hx, by rw [sz]; exact (by omega : h.objs.size + 1 ≠ h.objs.size + 2), nw _ (Nat.le_succ _)⟩
    · rcases List.mem_cons.mp hp with rfl | hp
      · exact ⟨hdx, by rw [sz]; exact (by omega : h.objs.size ≠ h.objs.size + 2), nw _ (Nat.le_refl _)⟩
      · nomatch hp
  have ne : h.objs.size + 1 ≠ h.objs.size := by omega
  generalize hL : ((h.push emptyDict).push (instObj 91 h.objs.size)).objs.size = L at F N hns ⊢
  show wpAny (MW w) _ (execs (fnBody (astIn 16 0)) (envOf (sO "Instruction.__init__") (fnScope (astIn 16 0)) L 81 (.ref 80))) _ _ ⟨h₁, g, d, tk + 7, os⟩
  refine' init_step (h₀ := h) (v := .str nm t0) F G.kx N ne ?a1_1 ?a1_2 ?a1_3 ?a1_4 ?a1_5 ?a1_6 ?a1_7 ?a1_8 ?a1_9 ?a1_10 ?a1_11 ?a1_12 ?a1_13 ?b1
  case a1_1 => kernel_rfl
  case a1_2 => kernel_rfl
  case a1_3 => kernel_rfl
  case a1_4 => kernel_rfl
  case a1_5 => kernel_rfl
  case a1_6 => exact Nat.le_of_ble_eq_true (by kernel_rfl)
  case a1_7 => kernel_rfl
  case a1_8 => kernel_rfl
  case a1_9 => kernel_rfl
  case a1_10 => kernel_rfl
  case a1_11 => kernel_rfl
  case a1_12 => kernel_rfl
  case a1_13 => kernel_rfl
  case b1 =>
  intro h2 F N
  refine' init_step (h₀ := h) (v := .int rd t1) F G.kx N ne ?a2_1 ?a2_2 ?a2_3 ?a2_4 ?a2_5 ?a2_6 ?a2_7 ?a2_8 ?a2_9 ?a2_10 ?a2_11 ?a2_12 ?a2_13 ?b2
  case a2_1 => kernel_rfl
  case a2_2 => kernel_rfl
  case a2_3 => kernel_rfl
  case a2_4 => kernel_rfl
  case a2_5 => kernel_rfl
  case a2_6 => exact Nat.le_of_ble_eq_true (by kernel_rfl)
  case a2_7 => kernel_rfl
  case a2_8 => kernel_rfl
  case a2_9 => kernel_rfl
  case a2_10 => kernel_rfl
  case a2_11 => kernel_rfl
  case a2_12 => kernel_rfl
  case a2_13 => kernel_rfl
  case b2 =>
  intro h3 F N
  refine' init_step (h₀ := h) (v := .int rs1 t2) F G.kx N ne ?a3_1 ?a3_2 ?a3_3 ?a3_4 ?a3_5 ?a3_6 ?a3_7 ?a3_8 ?a3_9 ?a3_10 ?a3_11 ?a3_12 ?a3_13 ?b3
  case a3_1 => kernel_rfl
  case a3_2 => kernel_rfl
  case a3_3 => kernel_rfl
  case a3_4 => kernel_rfl
  case a3_5 => kernel_rfl
  case a3_6 => exact Nat.le_of_ble_eq_true (by kernel_rfl)
  case a3_7 => kernel_rfl
  case a3_8 => kernel_rfl
  case a3_9 => kernel_rfl
  case a3_10 => kernel_rfl
  case a3_11 => kernel_rfl
  case a3_12 => kernel_rfl
  case a3_13 => kernel_rfl
  case b3 =>
  intro h4 F N
  refine' init_step (h₀ := h) (v := .int rs2 t3) F G.kx N ne ?a4_1 ?a4_2 ?a4_3 ?a4_4 ?a4_5 ?a4_6 ?a4_7 ?a4_8 ?a4_9 ?a4_10 ?a4_11 ?a4_12 ?a4_13 ?b4
  case a4_1 => kernel_rfl
  case a4_2 => kernel_rfl
  case a4_3 => kernel_rfl
  case a4_4 => kernel_rfl
  case a4_5 => kernel_rfl
  case a4_6 => exact Nat.le_of_ble_eq_true (by kernel_rfl)
  case a4_7 => kernel_rfl
  case a4_8 => kernel_rfl
  case a4_9 => kernel_rfl
  case a4_10 => kernel_rfl
  case a4_11 => kernel_rfl
  case a4_12 => kernel_rfl
  case a4_13 => kernel_rfl
  case b4 =>
  intro h5 F N
  refine' init_step (h₀ := h) (v := .int imm t4) F G.kx N ne ?a5_1 ?a5_2 ?a5_3 ?a5_4 ?a5_5 ?a5_6 ?a5_7 ?a5_8 ?a5_9 ?a5_10 ?a5_11 ?a5_12 ?a5_13 ?b5
  case a5_1 => kernel_rfl
  case a5_2 => kernel_rfl
  case a5_3 => kernel_rfl
  case a5_4 => kernel_rfl
  case a5_5 => kernel_rfl
  case a5_6 => exact Nat.le_of_ble_eq_true (by kernel_rfl)
  case a5_7 => kernel_rfl
  case a5_8 => kernel_rfl
  case a5_9 => kernel_rfl
  case a5_10 => kernel_rfl
  case a5_11 => kernel_rfl
  case a5_12 => kernel_rfl
  case a5_13 => kernel_rfl
  case b5 =>
  intro h6 F N
  refine' init_step (h₀ := h) (v := .int csr t5) F G.kx N ne ?a6_1 ?a6_2 ?a6_3 ?a6_4 ?a6_5 ?a6_6 ?a6_7 ?a6_8 ?a6_9 ?a6_10 ?a6_11 ?a6_12 ?a6_13 ?b6
  case a6_1 => kernel_rfl
  case a6_2 => kernel_rfl
  case a6_3 => kernel_rfl
  case a6_4 => kernel_rfl
  case a6_5 => kernel_rfl
  case a6_6 => exact Nat.le_of_ble_eq_true (by kernel_rfl)
  case a6_7 => kernel_rfl
  case a6_8 => kernel_rfl
  case a6_9 => kernel_rfl
  case a6_10 => kernel_rfl
  case a6_11 => kernel_rfl
  case a6_12 => kernel_rfl
  case a6_13 => kernel_rfl
  case b6 =>
  intro h7 F N
  refine wpAny_execs_nil ?_
  refine ⟨rfl, k h7 _ ?_ fun X hX => ?_⟩
  · exact .of_keeps F.keep (Nat.le_trans F.above (Nat.le_of_lt F.ns.lt))
  · have n1 : h.objs.size + 1 ∉ X := fun q => absurd (hX _ q) (Nat.not_lt.mpr (by first | exact Nat.le_succ _ | exact Nat.le_refl _))
    have n2 : h.objs.size ∉ X := fun q => absurd (hX _ q) (Nat.not_lt.mpr (by first | exact Nat.le_succ _ | exact Nat.le_refl _))
    exact .inst (t0 := t0) (t1 := t1) (t2 := t2) (t3 := t3) (t4 := t4) (t5 := t5) (vw_get (N _ (.head _)).1 n1) (vw_get (N _ (.tail _ (.head _))).1 n2) (by kernel_rfl) (by kernel_rfl) (by kernel_rfl) (by kernel_rfl) (by kernel_rfl) (by kernel_rfl) (by kernel_rfl)
noncomputable abbrev fdI : FuncData := fnOf (sO "__init__") (sO "Instruction.__init__") (fnParams (astIn 16 0)) (fnBody (astIn 16 0)) (fnScope (astIn 16 0)) (.ref 74) .none .none (.str (sO "pipeboard.isa") 258) none (.ref 80) .none
theorem bt_inst1 {w : World} {nm : Str} {t0 : Tok} (x : Value) (s : Shared) (X : (KK w.params).In s.heap) : BindsTo s fdI ⟨x :: [.str nm t0], []⟩ (instB x (.str nm t0) (.int 0 294) (.int 0 295) (.int 0 296) (.int 0 297) (.int 0 298)) :=
  BindsTo.of_defaults (T := 74) rfl (X _ _ (show (KK w.params).lookup 74 = some (o74 w.params) by kernel_rfl)) rfl rfl (by kernel_rfl)
theorem ca_inst1 {c : Cx} {lev : Nat} (ok : c.Ok (lev + 1)) {nm : Str} : CaJ c (.ref 91) [.str nm] (.inst nm 0 0 0 0 0) := fun ρ h tk Q E vs S rs k => by
  replace rs := rs.i; obtain ⟨_, _, rfl, r0, rs⟩ := rs
  obtain ⟨_, rfl⟩ := r0.i
  rename_i t0
  obtain rfl := rs.i
  exact wpAny_call (inst_make (S.gr ok) (by have := ok.depth; show c.A.depth + 1 ≤ 900; omega) (fun x s X => bt_inst1 x s X) fun h' tk' k1 r => k h' tk' _ ⟨k1.1, fun a o n e => k1.2.1 a o (by simp) e, k1.2.2⟩ (r c.X S.lt))
theorem bt_inst4 {w : World} {nm : Str} {rd rs1 rs2 : Int} {t0 t1 t2 t3 : Tok} (x : Value) (s : Shared) (X : (KK w.params).In s.heap) : BindsTo s fdI ⟨x :: [.str nm t0, .int rd t1, .int rs1 t2, .int rs2 t3], []⟩ (instB x (.str nm t0) (.int rd t1) (.int rs1 t2) (.int rs2 t3) (.int 0 297) (.int 0 298)) :=
  BindsTo.of_defaults (T := 74) rfl (X _ _ (show (KK w.params).lookup 74 = some (o74 w.params) by kernel_rfl)) rfl rfl (by kernel_rfl)
theorem ca_inst4 {c : Cx} {lev : Nat} (ok : c.Ok (lev + 1)) {nm : Str} {rd rs1 rs2 : Int} : CaJ c (.ref 91) [.str nm, .int rd, .int rs1, .int rs2] (.inst nm rd rs1 rs2 0 0) := fun ρ h tk Q E vs S rs k => by
  replace rs := rs.i; obtain ⟨_, _, rfl, r0, rs⟩ := rs
  obtain ⟨_, rfl⟩ := r0.i
  rename_i t0
  replace rs := rs.i; obtain ⟨_, _, rfl, r1, rs⟩ := rs
  obtain ⟨_, rfl⟩ := r1.i
  rename_i t1
  replace rs := rs.i; obtain ⟨_, _, rfl, r2, rs⟩ := rs
  obtain ⟨_, rfl⟩ := r2.i
  rename_i t2
  replace rs := rs.i; obtain ⟨_, _, rfl, r3, rs⟩ := rs
  obtain ⟨_, rfl⟩ := r3.i
  rename_i t3
  obtain rfl := rs.i
  exact wpAny_call (inst_make (S.gr ok) (by have := ok.depth; show c.A.depth + 1 ≤ 900; omega) (fun x s X => bt_inst4 x s X) fun h' tk' k1 r => k h' tk' _ ⟨k1.1, fun a o n e => k1.2.1 a o (by simp) e, k1.2.2⟩ (r c.X S.lt))
theorem bt_inst5 {w : World} {nm : Str} {rd rs1 rs2 imm : Int} {t0 t1 t2 t3 t4 : Tok} (x : Value) (s : Shared) (X : (KK w.params).In s.heap) : BindsTo s fdI ⟨x :: [.str nm t0, .int rd t1, .int rs1 t2, .int rs2 t3, .int imm t4], []⟩ (instB x (.str nm t0) (.int rd t1) (.int rs1 t2) (.int rs2 t3) (.int imm t4) (.int 0 298)) :=
  BindsTo.of_defaults (T := 74) rfl (X _ _ (show (KK w.params).lookup 74 = some (o74 w.params) by kernel_rfl)) rfl rfl (by kernel_rfl)
theorem ca_inst5 {c : Cx} {lev : Nat} (ok : c.Ok (lev + 1)) {nm : Str} {rd rs1 rs2 imm : Int} : CaJ c (.ref 91) [.str nm, .int rd, .int rs1, .int rs2, .int imm] (.inst nm rd rs1 rs2 imm 0) := fun ρ h tk Q E vs S rs k => by
  replace rs := rs.i; obtain ⟨_, _, rfl, r0, rs⟩ := rs
  obtain ⟨_, rfl⟩ := r0.i
  rename_i t0
  replace rs := rs.i; obtain ⟨_, _, rfl, r1, rs⟩ := rs
  obtain ⟨_, rfl⟩ := r1.i
  rename_i t1
  replace rs := rs.i; obtain ⟨_, _, rfl, r2, rs⟩ := rs
  obtain ⟨_, rfl⟩ := r2.i
  rename_i t2
  replace rs := rs.i; obtain ⟨_, _, rfl, r3, rs⟩ := rs
  obtain ⟨_, rfl⟩ := r3.i
  rename_i t3
  replace rs := rs.i; obtain ⟨_, _, rfl, r4, rs⟩ := rs
  obtain ⟨_, rfl⟩ := r4.i
  rename_i t4
  obtain rfl := rs.i
  exact wpAny_call (inst_make (S.gr ok) (by have := ok.depth; show c.A.depth + 1 ≤ 900; omega) (fun x s X => bt_inst5 x s X) fun h' tk' k1 r => k h' tk' _ ⟨k1.1, fun a o n e => k1.2.1 a o (by simp) e, k1.2.2⟩ (r c.X S.lt))
theorem bt_inst6 {w : World} {nm : Str} {rd rs1 rs2 imm csr : Int} {t0 t1 t2 t3 t4 t5 : Tok} (x : Value) (s : Shared) (X : (KK w.params).In s.heap) : BindsTo s fdI ⟨x :: [.str nm t0, .int rd t1, .int rs1 t2, .int rs2 t3, .int imm t4, .int csr t5], []⟩ (instB x (.str nm t0) (.int rd t1) (.int rs1 t2) (.int rs2 t3) (.int imm t4) (.int csr t5)) :=
  BindsTo.of_defaults (T := 74) rfl (X _ _ (show (KK w.params).lookup 74 = some (o74 w.params) by kernel_rfl)) rfl rfl (by kernel_rfl)
theorem ca_inst6 {c : Cx} {lev : Nat} (ok : c.Ok (lev + 1)) {nm : Str} {rd rs1 rs2 imm csr : Int} : CaJ c (.ref 91) [.str nm, .int rd, .int rs1, .int rs2, .int imm, .int csr] (.inst nm rd rs1 rs2 imm csr) := fun ρ h tk Q E vs S rs k => by
  replace rs := rs.i; obtain ⟨_, _, rfl, r0, rs⟩ := rs
  obtain ⟨_, rfl⟩ := r0.i
  rename_i t0
  replace rs := rs.i; obtain ⟨_, _, rfl, r1, rs⟩ := rs
  obtain ⟨_, rfl⟩ := r1.i
  rename_i t1
  replace rs := rs.i; obtain ⟨_, _, rfl, r2, rs⟩ := rs
  obtain ⟨_, rfl⟩ := r2.i
  rename_i t2
  replace rs := rs.i; obtain ⟨_, _, rfl, r3, rs⟩ := rs
  obtain ⟨_, rfl⟩ := r3.i
  rename_i t3
  replace rs := rs.i; obtain ⟨_, _, rfl, r4, rs⟩ := rs
  obtain ⟨_, rfl⟩ := r4.i
  rename_i t4
  replace rs := rs.i; obtain ⟨_, _, rfl, r5, rs⟩ := rs
  obtain ⟨_, rfl⟩ := r5.i
  rename_i t5
  obtain rfl := rs.i
  exact wpAny_call (inst_make (S.gr ok) (by have := ok.depth; show c.A.depth + 1 ≤ 900; omega) (fun x s X => bt_inst6 x s X) fun h' tk' k1 r => k h' tk' _ ⟨k1.1, fun a o n e => k1.2.1 a o (by simp) e, k1.2.2⟩ (r c.X S.lt))
section
variable {c : Cx} {lev : Nat} {ρ : Loc}
theorem ev_callK {fe : Expr} {f : Value} {e es as r p} (ok : c.Ok lev) (h1 : EvJ c ρ fe (.glob f)) (h2 : EvsJ c ρ (e :: es) as) (h3 : CaJ c f as r) (hf : keepIn (KK c.gd.w.params) f = true)
    (he : eval (.Call fe (e :: es) [] p) c.env = (do callWith p (← eval fe c.env) [] (backTo p (starEach (e :: es) c.env)) (backToKw p (keywordEach [] c.env))))
    (hs : starEach (e :: es) c.env = (false, eval e c.env) :: starEach es c.env) (hp : (backTo p (starEach es c.env)).any (·.1) = false) : EvJ c ρ (.Call fe (e :: es) [] p) r := fun h tk Q E S k => by
  refine Call_ (h1 h tk _ _ S fun h' tk' v k1 r1 => ?_) he
  obtain rfl := r1.i
  have S1 := S.kp ok k1
  exact callWith_K (S1.gr ok).kx hf (h2 p h' tk' _ _ S1 fun h'' tk'' vs k2 rs => ⟨((S1.kp ok k2).gr ok).kx, h3 ρ _ _ _ _ _ (S1.kp ok k2) rs fun h3 tk3 v k3 r3 => k _ _ _ ((k1.trans k2).trans k3) r3⟩) hs hp
theorem vw_ge {h : Heap} {X : List Addr} {a : Addr} {o : Obj} (e : vw h X a = some o) : h.get? a = some o := by
  unfold vw at e; split at e
  · cases e
  · exact e
theorem inst_get {nm : Str} {rd rs1 rs2 imm csr : Int} {v : Value} {h : Heap} {tk : Nat} {attr : Str} {expr : Bool} {A : Around} {Q : Value → Shared → Prop} {E : Value → Shared → Prop} {X : List Addr} {r : AV} {K : Frag} {w : World} {g d os}
    (K1 : K.In h) (hr : Rep (vw h X) v (.inst nm rd rs1 rs2 imm csr)) (c1 : plainGet K 91 attr = true) (c2 : hasDictIn K 91 = true) (c4 : noGetIn K 91 attr = true)
    (hl : (attr = sO "name" ∧ r = .str nm) ∨ (attr = sO "rd" ∧ r = .int rd) ∨ (attr = sO "rs1" ∧ r = .int rs1) ∨ (attr = sO "rs2" ∧ r = .int rs2) ∨ (attr = sO "imm" ∧ r = .int imm) ∨ (attr = sO "csr" ∧ r = .int csr))
    (k : ∀ u, Rep (vw h X) u r → Q u ⟨h, g, d, tk + 1, os⟩) : wpAny (model PySem.Challenge.rw_nz0215_01.row.prog w) A (getAttr v attr expr) Q E ⟨h, g, d, tk, os⟩ := by
  cases hr with
  | inst e1 e2 x0 x1 x2 x3 x4 x5 x6 =>
    obtain ⟨at', ha, c4⟩ := noGetIn_of c4
    have key : ∀ {es n dx u ax}, vw h X dx = some (dictOf es n) → vw h X ax = some (instObj 91 dx) → getL attr es = some (some u) → handedIn u = true → Rep (vw h X) u r → wpAny (model PySem.Challenge.rw_nz0215_01.row.prog w) A (getAttr (.ref ax) attr expr) Q E ⟨h, g, d, tk, os⟩ :=
      fun {es n dx u ax} e2 e1 hl hh hr => get_value (s := ⟨h, g, d, tk, os⟩) K1 ⟨vw_ge e1, rfl, rfl, vw_ge e2⟩ (plainGet_of c1).1 (findObj_own (od := dictOf es n) c2 ha c4 hl) hh (k _ hr)
    rcases hl with ⟨rfl, rfl⟩ | ⟨rfl, rfl⟩ | ⟨rfl, rfl⟩ | ⟨rfl, rfl⟩ | ⟨rfl, rfl⟩ | ⟨rfl, rfl⟩
    · exact key e2 e1 x0 rfl .str
    · exact key e2 e1 x1 rfl .int
    · exact key e2 e1 x2 rfl .int
    · exact key e2 e1 x3 rfl .int
    · exact key e2 e1 x4 rfl .int
    · exact key e2 e1 x5 rfl .int
theorem ev_attrX {x attr : Str} {xp p : Pos} {nm : Str} {rd rs1 rs2 imm csr : Int} {r : AV} (ok : c.Ok lev) (h1 : EvJ c ρ (.Name x xp) (.inst nm rd rs1 rs2 imm csr)) (c1 : plainGet (KK c.gd.w.params) 91 attr = true) (c2 : hasDictIn (KK c.gd.w.params) 91 = true) (c4 : noGetIn (KK c.gd.w.params) 91 attr = true)
    (hl : (attr = sO "name" ∧ r = .str nm) ∨ (attr = sO "rd" ∧ r = .int rd) ∨ (attr = sO "rs1" ∧ r = .int rs1) ∨ (attr = sO "rs2" ∧ r = .int rs2) ∨ (attr = sO "imm" ∧ r = .int imm) ∨ (attr = sO "csr" ∧ r = .int csr))
    (he : eval (.Attribute (.Name x xp) attr p) c.env = (do let o ← eval (.Name x xp) c.env; standAt p.atName; let r ← holding [o] (getAttr o attr true); letTemporaryGo (.Name x xp) o r; pure r)) : EvJ c ρ (.Attribute (.Name x xp) attr p) r := fun h tk Q E S k => by
  refine Attribute_Name_ (h1 h tk _ _ S fun h' tk' v k1 r1 => ?_) he
  exact inst_get ((S.kp ok k1).gr ok).kx r1 c1 c2 c4 hl fun u hu => k _ _ _ k1 hu
end
section
variable {c : Cx} {lev : Nat} {ρ : Loc}
theorem vw_push {h : Heap} {X : List Addr} (hX : ∀ a ∈ X, a < h.objs.size) (o : Obj) (hf : o.isFreed = false) : vw (h.push o) X h.objs.size = some o := by
  unfold vw
  rw [if_neg (fun q => Nat.lt_irrefl _ (hX _ q))]
  exact Heap.get?_push_size _ hf
theorem evs_len {es as} (h : EvsJ c ρ es as) : True := trivial
theorem ev_tuple {elts : List Expr} {n : Nat} {p as} (ok : c.Ok lev) (h : EvsJ c ρ elts as) (hs : as.length ≤ 1000) : EvJ c ρ (.Tuple elts n p) (.tup as) := fun hp tk Q E S k => by
  refine Tuple_ (h p hp tk _ _ S fun h' tk' vs k1 rs => ?_)
  have S1 := S.kp ok k1
  refine wpAny_newTuple (k _ _ _ (k1.trans (Kp.push _)) ?_) (by rw [rs.len, sizeLine_eq]; omega)
  exact .tup (vw_push S1.lt _ rfl) rfl rfl (Reps.mono ((Kp.push (fr := c.fr) _).vle ok.frX) rs)
theorem ev_list {elts : List Expr} {p as} (ok : c.Ok lev) (h : EvsJ c ρ elts as) (hs : as.length ≤ 1000) : EvJ c ρ (.List elts p) (.list as) := fun hp tk Q E S k => by
  refine List_ (h p hp tk _ _ S fun h' tk' vs k1 rs => ?_)
  have S1 := S.kp ok k1
  refine wpAny_newList (k _ _ _ (k1.trans (Kp.push _)) ?_) (by rw [rs.len, sizeLine_eq]; omega)
  exact .list (vw_push S1.lt _ rfl) rfl rfl (Reps.mono ((Kp.push (fr := c.fr) _).vle ok.frX) rs)
theorem ev_fields {o : Expr} {apos pos : Pos} {pl : Sem Bool} {nm rd rs1 rs2 imm csr r} (ok : c.Ok lev) (h1 : EvJ c ρ o (.inst nm rd rs1 rs2 imm csr)) (h3 : CaJ c (.ref 88) [.inst nm rd rs1 rs2 imm csr] r)
    (he : eval (.Call (.Attribute o "fields" apos) [] [] pos) c.env = (do
      let ov ← eval o c.env
      standAt apos.atName
      let (f, first) ← holding [ov] (getMethod ov "fields" pl)
      callWith pos f first (backTo pos (starEach [] c.env)) [])) : EvJ c ρ (.Call (.Attribute o "fields" apos) [] [] pos) r := fun h tk Q E S kq => by
  refine MethodCall_ (h1 h tk _ _ S fun h' tk' v k1 r1 => ?_) he
  have S1 := S.kp ok k1
  have r0 := r1
  cases r1 with
  | @inst a d es n _ _ _ _ _ _ t0 t1 t2 t3 t4 t5 e1 e2 x0 x1 x2 x3 x4 x5 x6 =>
    have X := (S1.gr ok).kx
    refine method_fn (s := c.sh h' tk') X (ox := instObj 91 d) (od := some (dictOf es n)) ⟨vw_ge e1, rfl, rfl, vw_ge e2⟩ (by kernel_rfl) (by kernel_rfl) (f := 88) (by kernel_rfl) (by kernel_rfl) ?_ ?_
    · show (lookIn (sO "fields") (dictOf es n)).map _ = _
      rw [lookIn_dict, x6]; rfl
    · exact callWith_K0 X (by kernel_rfl) (h3 ρ _ _ _ _ _ S1 (.cons r0 .nil) fun h3 tk3 v k3 r3 => kq _ _ _ (k1.trans k3) r3)
end
theorem at_name {c : Cx} {lev : Nat} {ρ : Loc} {x : Str} {xp p : Pos} {nm : Str} {rd rs1 rs2 imm csr : Int} (ok : c.Ok lev) (h1 : EvJ c ρ (.Name x xp) (.inst nm rd rs1 rs2 imm csr))
    (he : eval (.Attribute (.Name x xp) (Str.ofString "name") p) c.env = (do let o ← eval (.Name x xp) c.env; standAt p.atName; let r ← holding [o] (getAttr o (Str.ofString "name") true); letTemporaryGo (.Name x xp) o r; pure r)) : EvJ c ρ (.Attribute (.Name x xp) (Str.ofString "name") p) (.str nm) :=
  ev_attrX ok h1 (by kernel_rfl) (by kernel_rfl) (by kernel_rfl) (.inl ⟨rfl, rfl⟩) he
theorem at_rd {c : Cx} {lev : Nat} {ρ : Loc} {x : Str} {xp p : Pos} {nm : Str} {rd rs1 rs2 imm csr : Int} (ok : c.Ok lev) (h1 : EvJ c ρ (.Name x xp) (.inst nm rd rs1 rs2 imm csr))
    (he : eval (.Attribute (.Name x xp) (Str.ofString "rd") p) c.env = (do let o ← eval (.Name x xp) c.env; standAt p.atName; let r ← holding [o] (getAttr o (Str.ofString "rd") true); letTemporaryGo (.Name x xp) o r; pure r)) : EvJ c ρ (.Attribute (.Name x xp) (Str.ofString "rd") p) (.int rd) :=
  ev_attrX ok h1 (by kernel_rfl) (by kernel_rfl) (by kernel_rfl) (.inr (.inl ⟨rfl, rfl⟩)) he
theorem at_rs1 {c : Cx} {lev : Nat} {ρ : Loc} {x : Str} {xp p : Pos} {nm : Str} {rd rs1 rs2 imm csr : Int} (ok : c.Ok lev) (h1 : EvJ c ρ (.Name x xp) (.inst nm rd rs1 rs2 imm csr))
    (he : eval (.Attribute (.Name x xp) (Str.ofString "rs1") p) c.env = (do let o ← eval (.Name x xp) c.env; standAt p.atName; let r ← holding [o] (getAttr o (Str.ofString "rs1") true); letTemporaryGo (.Name x xp) o r; pure r)) : EvJ c ρ (.Attribute (.Name x xp) (Str.ofString "rs1") p) (.int rs1) :=
  ev_attrX ok h1 (by kernel_rfl) (by kernel_rfl) (by kernel_rfl) (.inr (.inr (.inl ⟨rfl, rfl⟩))) he
theorem at_rs2 {c : Cx} {lev : Nat} {ρ : Loc} {x : Str} {xp p : Pos} {nm : Str} {rd rs1 rs2 imm csr : Int} (ok : c.Ok lev) (h1 : EvJ c ρ (.Name x xp) (.inst nm rd rs1 rs2 imm csr))
    (he : eval (.Attribute (.Name x xp) (Str.ofString "rs2") p) c.env = (do let o ← eval (.Name x xp) c.env; standAt p.atName; let r ← holding [o] (getAttr o (Str.ofString "rs2") true); letTemporaryGo (.Name x xp) o r; pure r)) : EvJ c ρ (.Attribute (.Name x xp) (Str.ofString "rs2") p) (.int rs2) :=
  ev_attrX ok h1 (by kernel_rfl) (by kernel_rfl) (by kernel_rfl) (.inr (.inr (.inr (.inl ⟨rfl, rfl⟩)))) he
theorem at_imm {c : Cx} {lev : Nat} {ρ : Loc} {x : Str} {xp p : Pos} {nm : Str} {rd rs1 rs2 imm csr : Int} (ok : c.Ok lev) (h1 : EvJ c ρ (.Name x xp) (.inst nm rd rs1 rs2 imm csr))
    (he : eval (.Attribute (.Name x xp) (Str.ofString "imm") p) c.env = (do let o ← eval (.Name x xp) c.env; standAt p.atName; let r ← holding [o] (getAttr o (Str.ofString "imm") true); letTemporaryGo (.Name x xp) o r; pure r)) : EvJ c ρ (.Attribute (.Name x xp) (Str.ofString "imm") p) (.int imm) :=
  ev_attrX ok h1 (by kernel_rfl) (by kernel_rfl) (by kernel_rfl) (.inr (.inr (.inr (.inr (.inl ⟨rfl, rfl⟩))))) he
theorem at_csr {c : Cx} {lev : Nat} {ρ : Loc} {x : Str} {xp p : Pos} {nm : Str} {rd rs1 rs2 imm csr : Int} (ok : c.Ok lev) (h1 : EvJ c ρ (.Name x xp) (.inst nm rd rs1 rs2 imm csr))
    (he : eval (.Attribute (.Name x xp) (Str.ofString "csr") p) c.env = (do let o ← eval (.Name x xp) c.env; standAt p.atName; let r ← holding [o] (getAttr o (Str.ofString "csr") true); letTemporaryGo (.Name x xp) o r; pure r)) : EvJ c ρ (.Attribute (.Name x xp) (Str.ofString "csr") p) (.int csr) :=
  ev_attrX ok h1 (by kernel_rfl) (by kernel_rfl) (by kernel_rfl) (.inr (.inr (.inr (.inr (.inr (⟨rfl, rfl⟩)))))) he
local macro_rules | `(tactic| walk_at "ev") => `(tactic| first
  | ((with_reducible refine' at_name (by assumption) ?l ?e); (case l => walk_at "ev"); (case e => rfl))
  | ((with_reducible refine' at_rd (by assumption) ?l ?e); (case l => walk_at "ev"); (case e => rfl))
  | ((with_reducible refine' at_rs1 (by assumption) ?l ?e); (case l => walk_at "ev"); (case e => rfl))
  | ((with_reducible refine' at_rs2 (by assumption) ?l ?e); (case l => walk_at "ev"); (case e => rfl))
  | ((with_reducible refine' at_imm (by assumption) ?l ?e); (case l => walk_at "ev"); (case e => rfl))
  | ((with_reducible refine' at_csr (by assumption) ?l ?e); (case l => walk_at "ev"); (case e => rfl)))
local macro_rules | `(tactic| walk_at "evs") => `(tactic| first
  | exact evs_nil
  | (refine' evs_cons (by assumption) ?a ?b (by rfl); (case a => walk_at "ev"); (case b => walk_at "evs")))
local macro_rules | `(tactic| walk_at "ev") => `(tactic| first
  | ((with_reducible refine' ev_tuple (by assumption) ?a ?b); (case a => walk_at "evs"); (case b => exact Nat.le_of_ble_eq_true (by rfl)))
  | ((with_reducible refine' ev_list (by assumption) ?a ?b); (case a => walk_at "evs"); (case b => exact Nat.le_of_ble_eq_true (by rfl))))
section
theorem fields_body {c : Cx} {lev} (ok : c.Ok lev) (hs : c.scope = fnScope (astIn 16 1)) (nm : Str) (rd rs1 rs2 imm csr : Int) :
    BlJ c [(sO "self", .inst nm rd rs1 rs2 imm csr)] (fnBody (astIn 16 1)) (.ret (.tup [.str nm, .int rd, .int rs1, .int rs2, .int imm, .int csr])) := by
  refine' bl_ret (sm_return ?_)
  walk_at "ev"
end
theorem con_fields (gd : Gd) (lev : Nat) (nm : Str) (rd rs1 rs2 imm csr : Int) : Con gd (lev + 1) (.ref 88) [.inst nm rd rs1 rs2 imm csr] (.ok (.tup [.str nm, .int rd, .int rs1, .int rs2, .int imm, .int csr])) :=
  con_fn (as := [.inst nm rd rs1 rs2 imm csr]) (out := .ret (.tup [.str nm, .int rd, .int rs1, .int rs2, .int imm, .int csr])) [sO "self"] (show (KK gd.w.params).lookup 88 = some (o88 gd.w.params) by kernel_rfl) (by kernel_rfl)
    (fun s vs hl _ => by obtain ⟨a0, rfl⟩ := len1 hl; exact .of_eq (by kernel_rfl)) (by decide +kernel)
    (fun c hg ok hs hn => fields_body ok hs nm rd rs1 rs2 imm csr) (by kernel_rfl) (by kernel_rfl) (by kernel_rfl) (by decide +kernel)
theorem SH_small : SH.all (fun r => decide (r.sev.natAbs < 2 ^ 64) && decide (r.third.natAbs < 2 ^ 64)) = true := by decide +kernel
section
theorem fixed_body {c : Cx} {lev} (ok : c.Ok lev) (hs : c.scope = fnScope (astIn 17 1)) (r : SR) (hr : r ∈ SH) :
    BlJ c [(sO "self", .glob (srV r))] (fnBody (astIn 17 1)) (.ret (.int r.fixed)) := by
  have hok := sh_split (List.all_eq_true.mp (SH_ok c.gd.w.params) r hr)
  have hsm := List.all_eq_true.mp SH_small r hr
  rw [Bool.and_eq_true, decide_eq_true_eq, decide_eq_true_eq] at hsm
  refine' bl_ret (sm_return (ev_bin ok (ev_bin ok (ev_bin ok (ev_attrI (a := r.addr) (s := r.sev) ok ?q1 ?q2 rfl) ?c ?d) (ev_bin ok (ev_attrI (a := r.addr) (s := r.third) ok ?e ?f rfl) ?g ?h) op_or) (ev_attrI (a := r.addr) (s := r.op) ok ?i ?j rfl) op_or))
  case q1 => walk_at "ev"
  case q2 => exact hok.2.2.2.2
  case c => walk_at "ev"
  case d => exact op_shl (by decide) (by decide) hsm.1
  case e => walk_at "ev"
  case f => exact hok.2.2.2.1
  case g => walk_at "ev"
  case h => exact op_shl (by decide) (by decide) hsm.2
  case i => walk_at "ev"
  case j => exact hok.2.2.1
end
theorem con_fixed (gd : Gd) (lev : Nat) (r : SR) (hr : r ∈ SH) : Con gd (lev + 1) (.ref 117) [.glob (srV r)] (.ok (.int r.fixed)) :=
  con_fn (as := [.glob (srV r)]) (out := .ret (.int r.fixed)) [sO "self"] (show (KK gd.w.params).lookup 117 = some (o117 gd.w.params) by kernel_rfl) (by kernel_rfl)
    (fun s vs hl _ => by obtain ⟨a0, rfl⟩ := len1 hl; exact .of_eq (by kernel_rfl)) (by decide +kernel)
    (fun c hg ok hs hn => fixed_body ok hs r hr) (by kernel_rfl) (by kernel_rfl) (by kernel_rfl) (by decide +kernel)
local macro_rules | `(tactic| walk_at "op") => `(tactic| first
  | with_reducible exact op_notinS (by assumption) (ds_name _))
theorem SH_byname : SH.all (fun r => (SH.find? fun q => q.name = r.name).map (·.addr) == some r.addr) = true := by decide +kernel
theorem byname {r : SR} (hr : r ∈ SH) : valueAt (SH.map fun r => (r.name, srV r)) r.name = some (srV r) := by
  have h := List.all_eq_true.mp SH_byname r hr
  rw [beq_iff_eq] at h
  obtain ⟨q, hq, e⟩ := Option.map_eq_some_iff.mp h
  rw [valueAt_mapS, hq]
  show some (srV q) = _
  unfold srV; rw [e]
section
theorem so_body {c : Cx} {lev} (ok : c.Ok lev) (hs : c.scope = fnScope (astAt 25)) (r : SR) (hr : r ∈ SH) :
    BlJ c [(sO "name", .str r.name)] (fnBody (astAt 25)) (.ret (.glob (srV r))) := by
  refine' bl_if ok (b := false) ?t (fun h => nomatch h) (fun h => nomatch h) (fun _ => ?x)
  case t =>
    refine' ts_eq ?e ?q
    case e => walk_at "ts"
    case q => rw [byname hr]; rfl
  case x =>
    refine' bl_ret (sm_return (ev_sub ok ?e1 ?e2 ?e3))
    case e1 => walk_at "ev"
    case e2 => walk_at "ev"
    case e3 => exact sb_DS ok (ds_name _) (byname hr) (fun _ _ => rfl)
end
theorem con_so (gd : Gd) (lev : Nat) (r : SR) (hr : r ∈ SH) : Con gd (lev + 1) (.ref 1024) [.str r.name] (.ok (.glob (srV r))) :=
  con_fn (as := [.str r.name]) (out := .ret (.glob (srV r))) [sO "name"] (show (KK gd.w.params).lookup 1024 = some (o1024 gd.w.params) by kernel_rfl) (by kernel_rfl)
    (fun s vs hl _ => by obtain ⟨a0, rfl⟩ := len1 hl; exact .of_eq (by kernel_rfl)) (by decide +kernel)
    (fun c hg ok hs hn => so_body ok hs r hr) (by kernel_rfl) (by kernel_rfl) (by kernel_rfl) (by decide +kernel)
section
variable {prog : Program} {w : World} {A : Around} {E : Value → Shared → Prop} {R : PySem.Result → Shared → Prop} {h : Heap} {g : Array GenState} {d : Drawn} {t : Nat} {os : OsState}
variable {nm q : Str} {C N : Addr} {bs bm : List Value} {hdct : Bool} {sn : List Str} {sub : List Value} {ab : Bool} {col : Option Bool} {dd : Option Addr} {k0 k1 k2 k3 k5 : Option Value} {Bn newId inN : String} {bmN : List Value}
theorem ex_check_new (Fn : ExcBaseFacts Bn newId inN bmN) (hcont : (Value.ref C :: bm).contains (.type Bn) = true) {rest : List Value} {Q : Unit → Shared → Prop} (hC : h.get? C = some (excClassObj nm q C N bs bm hdct sn sub ab col dd k0 k1 k2 k3 k5 newId))
    (hq : Q () ⟨h, g, d, t, os⟩) : wpAny (model prog w) A (checkBuiltinCall newId ⟨.ref C :: rest, []⟩) Q E ⟨h, g, d, t, os⟩ := by
  have hstar := Fn.noStar
  simp only [checkBuiltinCall, Fn.newKind, Fn.newSplit, Fn.newRow]
  repeat (first | refine wpAny_loadPart_at hC ?_ | (refine wpAny_isSubtype_exc hC ?_; rw [hcont]) | refine wpAny_staticBase_exc hC ?_ | refine wpAny_madeBy_exc hC ?_ | simp only [bne_self_eq_false, Bool.false_eq_true, if_false] | wp_step)
  exact hq
theorem ex_new (Fn : ExcBaseFacts Bn newId inN bmN) (hcB : (Value.ref C :: bm).contains (.type Bn) = true) (hcA : (Value.ref C :: bm).contains (.type "AttributeError") = false) (hcN : (Value.ref C :: bm).contains (.type "NameError") = false) {rest : List Value}
    (hC : h.get? C = some (excClassObj nm q C N bs bm hdct sn sub ab col dd k0 k1 k2 k3 k5 newId))
    (hq : R (.ok (.ret (.ref (h.objs.size + 1)))) ⟨(h.push { cls := .type "tuple", data := .seq rest.toArray }).push
      { cls := .ref C, data := .fields #[.ref h.objs.size, .none, .none, .none, .bool false, .none] }, g, d, t, os⟩) (hrest : rest.length ≤ sizeLine) :
    codeAny (model prog w) A (.builtin newId ⟨.ref C :: rest, []⟩) R ⟨h, g, d, t, os⟩ := by
  have hends := Fn.ends
  refine codeAny_builtinAt Fn.entry ?_
  unfold Builtin.«BaseException.__new__»
  refine PySem.wpAt_bind ?_
  show PySem.wpAt _ _ _ (stack >>= _) _ _ _
  refine PySem.wpAt_bind (PySem.wpAt_stack fun p below => PySem.wpAt_of_wpAny ?_)
  wp_walk
  refine PySem.wpAt_of_wpAny ?_
  rw [Fn.owner]
  repeat (first | with_reducible refine wpAny_madeHere_exc Fn.canon hC ?_ | with_reducible refine wpAny_loadPart_at hC ?_ | (with_reducible refine wpAny_isSubtype_exc hC ?_; first | rw [hcB] | rw [hcA] | rw [hcN]) | wp_step)
  show R _ _
  rw [Heap.size_push]
  exact hq
theorem ex_type_call (Fn : ExcBaseFacts Bn newId inN bmN) (hcB : (Value.ref C :: bm).contains (.type Bn) = true) (hcA : (Value.ref C :: bm).contains (.type "AttributeError") = false) (hcN : (Value.ref C :: bm).contains (.type "NameError") = false) {K : Frag} {rest : List Value} {fI : Addr} {Q : Fin → Shared → Prop}
    (X : K.In h) (hC : h.get? C = some (excClassObj nm q C N bs bm hdct sn sub ab col dd k0 k1 k2 k3 k5 newId)) (hi : findIn K (.ref C) "__init__" = some (some (.ref fI))) (hf : typeIn K (.ref fI) = some (.type "function"))
    (hq : ∀ h' e, h.objs.size ≤ e → Heap.MadeExcOf h h' e (.ref C) rest →
      wpAny (model prog w) A (call (.ref fI) (.ref e :: rest)) (fun r s' => r = .none ∧ Q (.done (.ret (.ref e))) s') E ⟨h', g, d, t, os⟩) (hrest : rest.length ≤ sizeLine) :
    wpAny (model prog w) A (Builtin.«type.__call__» ⟨.ref C :: rest, []⟩) Q E ⟨h, g, d, t, os⟩ := by
  repeat (first | with_reducible refine wpAny_loadPart_at hC ?_ | with_reducible refine wpAny_madeBy_exc hC ?_ | wp_step)
  refine codeAny_call_builtin_code (Code.quiet_builtin _ Fn.quiet) (ex_check_new Fn hcB hC ?_)
  refine ex_new Fn hcB hcA hcN hC ?_ hrest
  show wpAny _ _ _ _ _ _
  have k : ∀ b o, h.get? b = some o → ((h.push { cls := .type "tuple", data := .seq rest.toArray }).push
      { cls := .ref C, data := .fields #[.ref h.objs.size, .none, .none, .none, .bool false, .none] }).get? b = some o := fun b o e => Heap.get?_push_of_some _ (Heap.get?_push_of_some _ e)
  have hC₁ := k _ _ hC
  have hget : ((h.push { cls := .type "tuple", data := .seq rest.toArray }).push
      { cls := .ref C, data := .fields #[.ref h.objs.size, .none, .none, .none, .bool false, .none] }).get? (h.objs.size + 1) = some
      { cls := .ref C, data := .fields #[.ref h.objs.size, .none, .none, .none, .bool false, .none] } := by heap_get
  have hcC : (Value.ref C :: bm).contains (.ref C) = true := by simp
  unfold isInstance
  repeat (first | with_reducible refine wpAny_loadPart_at hget ?_ | (with_reducible refine wpAny_isSubtype_exc hC₁ ?_; rw [hcC]) | wp_step)
  show wpAny _ _ (typeLookup (.ref C) _) _ _ _
  refine (looks_findIn (X.keeps k) hi).at ?_
  refine wpAny_holding (wpAny_bind ?_)
  refine (bind_fn (X.keeps k) _ hf).at ?_
  refine wpAny_bind (wpAny_mono (hq _ (h.objs.size + 1) (Nat.le_succ _) ⟨k, Heap.get?_none_of_le (Nat.le_succ _), h.objs.size, hget, Heap.get?_none_of_le (Nat.le_refl _), ?_⟩) (fun r s' hr => ?_) fun _ _ x => x)
  · exact Heap.get?_push_of_some _ (Heap.get?_push_at rfl rfl)
  · obtain ⟨rfl, hQ⟩ := hr
    wp_walk
    exact hQ
end
section
variable {prog : Program} {w : World} {A : Around} {E : Value → Shared → Prop} {R : PySem.Result → Shared → Prop} {h : Heap} {g : Array GenState} {d : Drawn} {t : Nat} {os : OsState}
variable {nm q : Str} {C N : Addr} {bs bm : List Value} {hdct : Bool} {sn : List Str} {sub : List Value} {ab : Bool} {col : Option Bool} {dd : Option Addr} {k0 k1 k2 k3 k5 : Option Value} {Bn newId inN : String} {bmN : List Value}
theorem ex_call (Fn : ExcBaseFacts Bn newId inN bmN) (hcB : (Value.ref C :: bm).contains (.type Bn) = true) (hcA : (Value.ref C :: bm).contains (.type "AttributeError") = false) (hcN : (Value.ref C :: bm).contains (.type "NameError") = false) {K : Frag} {rest : List Value} {fI : Addr} {Q : Value → Shared → Prop}
    (X : K.In h) (hC : h.get? C = some (excClassObj nm q C N bs bm hdct sn sub ab col dd k0 k1 k2 k3 k5 newId)) (hi : findIn K (.ref C) "__init__" = some (some (.ref fI))) (hf : typeIn K (.ref fI) = some (.type "function"))
    (hq : ∀ h' e, h.objs.size ≤ e → Heap.MadeExcOf h h' e (.ref C) rest →
      wpAny (model prog w) (A.under (.builtin "type.__call__" ⟨.ref C :: rest, []⟩)) (call (.ref fI) (.ref e :: rest)) (fun r s' => r = .none ∧ Q (.ref e) s') E ⟨h', g, d, t, os⟩) (hrest : rest.length ≤ sizeLine) :
    wpAny (model prog w) A (call (.ref C) rest) Q E ⟨h, g, d, t, os⟩ := by
  have f1 := tc_lookup
  have f2 := tc_bind (.ref C)
  have hT : (⟨h, g, d, t, os⟩ : Shared).TypeIs (.ref C) "type" := ⟨_, hC, rfl⟩
  refine wpAny_call (codeAny_of_tree ?_)
  show wpAny _ _ (callAny (.ref C) _) _ _ _
  repeat (any_goals (first | assumption | with_reducible refine wpAny_loadPart_at hC ?_ | wp_step))
  refine ⟨rfl, ?_⟩
  refine codeAny_call_builtin_at (Code.quiet_builtin _ (by decide +kernel)) entry_typeCall (wpAny_check_type_call_sub hC (ex_type_call Fn hcB hcA hcN (hrest := hrest) X hC hi hf fun h' e hs hm => ?_))
  exact hq h' e hs hm
structure ExCls (K : Frag) (C : Addr) (cd : ClassData) : Prop where
  cls : clsIn K C = some cd
  pass : ∀ self, refuseLoop self "__setattr__" cd.mro = pure ()
  obj : cd.mro.contains (.type "object") = true
  ne : cd.mro.isEmpty = false
  dict : cd.hasDict = true
  sa : findIn K (.ref C) "__setattr__" = some (some (.builtin "object.__setattr__"))
theorem ex_osa {K : Frag} {s : Shared} {x : Addr} {ox : Obj} {od : Option Obj} {name : Str} {tk : Tok} {v : Value} {cd : ClassData} (X : K.In s.heap) (I : InstAt s.heap x ox C od) (Z : ExCls K C cd) (ht : takerIn K C name = some none)
    (h : ∀ b, wpAny (model prog w) A.in1 (Builtin.ObjectAttr.storeInOwnDict (.ref x) (.ref C) (.str name tk) name v b)
      (fun fin s' => match fin with | .done f => R (.ok f) s' | .again c' => c'.quiet = true ∧ codeAny (model prog w) A c' R s') (fun e s' => R (.error e) s') s) :
    codeAny (model prog w) A (.call (.builtin "object.__setattr__") ⟨[.ref x, .str name tk, v], []⟩) R s := by
  have SF := PySem.F.store_object
  have sub : Looks (model prog w) s.heap (isInstance (.ref x) (.type "object")) true := I.type.andThen (looks_mroIn X (by unfold mroIn; rw [Z.cls, Option.bind_some, if_neg (by rw [Z.ne]; decide), Z.obj]))
  refine codeAny_call_builtin SF.slot.plain SF.entry (@check_slot (model prog w) _ _ s "object.__setattr__" "object" "__setattr__" (.ref x) [.str name tk, v] [] _ SF.kind SF.split sub (SF.args (.ref x) (.str name tk) v) ?_)
  obtain ⟨attr, ha, hr⟩ := Option.bind_eq_some_iff.mp ht
  have hm : Looks (model prog w) s.heap (mroOf (.ref C)) cd.mro := (looks_clsIn X Z.cls).andThen .now
  have L3 : Looks (model prog w) s.heap (Builtin.ObjectAttr.storeTaker? attr) none := by
    cases attr with
    | none => cases hr; exact .now
    | some a =>
      obtain ⟨b, hb, e⟩ := Option.map_eq_some_iff.mp hr
      refine (looks_takesIn X hb).andThen ?_
      cases b <;> first | exact .now | cases e
  rw [osa_eq, refuse_eq]
  refine wpAny_bind (wpAny_bind (I.type.here (wpAny_bind (hm.here ?_))))
  rw [Z.pass]
  refine wpAny_pure (wpAny_bind (I.type.here (wpAny_bind ((looks_findIn X ha).here (wpAny_bind (L3.here ?_))))))
  exact h _
theorem ex_store {K : Frag} {x : Addr} {name : Str} {v : Value} {cd : ClassData} {mA : Str → Option Value} {Q : Unit → Shared → Prop} {ns : List Str} (X : K.In h) (Z : ExCls K C cd) (ht : takerIn K C name = some none) (I : h.Inst x C mA)
    (hq : ∀ h' tk', h'.Inst x C (fun y => if y = name then some v else mA y) →
      (∀ b o, b ≠ x → (∀ o₀ dx, h.get? x = some o₀ → o₀.dict = some dx → b ≠ dx) → h.get? b = some o → h'.get? b = some o) →
      (∀ o₀, h.get? x = some o₀ → ∃ o₁, h'.get? x = some o₁ ∧ o₁.cls = o₀.cls ∧ o₁.data = o₀.data ∧ o₁.slots = o₀.slots ∧ (∀ dx, o₀.dict = some dx → o₁.dict = some dx) ∧ (o₀.dict = none → ∃ d₀, o₁.dict = some d₀ ∧ h.get? d₀ = none)) → h.objs.size ≤ h'.objs.size → Q () ⟨h', g, d, tk', os⟩) (hw : Within mA ns) (hsz : ns.length ≤ 1000) :
    wpAny (model prog w) A (setAttr (.ref x) name v) Q E ⟨h, g, d, t, os⟩ := by
  obtain ⟨o, hx, hc, hnc, hd⟩ := I
  have ncls : notCls o = true := by
    unfold notCls
    split
    · rename_i c q; exact absurd q (hnc c)
    · rfl
  rcases hd with ⟨hdn, hmA⟩ | ⟨dx, hdx, hne, hns⟩
  · have J : InstAt h x o C none := ⟨hx, hc, ncls, by rw [hdn]; trivial⟩
    refine set_plain (s := ⟨h, g, d, t, os⟩) X J Z.sa (ex_osa X J Z ht fun b => ?_)
    refine wpAny_bind (wpAny_pure (wpAny_bind (wpAny_bind (wpAny_loadPart hx ?_))))
    rw [hc]
    refine wpAny_bind ((looks_clsIn X Z.cls).here ?_)
    rw [Z.dict, hdn]
    dsimp only
    rw [if_neg (by decide), if_neg (by simp [typeHasDict])]
    split
    · rename_i c hcd
      exact absurd hcd (hnc c)
    · have hx₁ : (h.push { cls := .type "dict", data := .dict #[] }).get? x = some o := Heap.get?_push_of_some _ hx
      have hxs : x ≠ h.objs.size := Nat.ne_of_lt (Heap.lt_size hx)
      refine wpAny_bind (wpAny_alloc' ?_)
      refine wpAny_bind (wpAny_update' hx₁ ?_)
      refine wpAny_pure ?_
      have hgd : ((h.push { cls := .type "dict", data := .dict #[] }).update x fun o => { cls := o.cls, dict := some h.objs.size, data := o.data, slots := o.slots }).get? h.objs.size
          = some { cls := .type "dict", data := .dict #[] } :=
        (Heap.get?_update_ne _ _ _ _ hxs.symm).trans (Heap.get?_push_at rfl rfl)
      have hnd : ((h.push { cls := .type "dict", data := .dict #[] }).update x fun o => { cls := o.cls, dict := some h.objs.size, data := o.data, slots := o.slots }).Ns h.objs.size (fun _ => none) :=
        ⟨_, #[], _, hgd, rfl, fun e he => absurd he (by simp), fun _ => rfl⟩
      show wpAny _ _ (Builtin.ObjectAttr.storeInDict h.objs.size (.str name t) name v) _ _ _
      unfold Builtin.ObjectAttr.storeInDict Builtin.ObjectAttr.newKeyGuard
      refine wpAny_bind (wpAny_pure (wpAny_bind (wpAny_nsSet1 (Heap.Ns1.of_empty hnd) fun h' hn' hs => ?_)))
      obtain ⟨oD, esD, epD, hoD, hdD, hcD⟩ := hn'.count (Within.cons name v Within.nil)
      refine wpAny_bind (wpAny_lookBehind hoD (by rw [hdD]; exact pastItsLine_dict (Nat.le_trans hcD (by rw [List.length_cons, List.length_nil, sizeLine_eq]; omega))) ?_)
      wp_walk
      have hx' : h'.get? x = some { cls := o.cls, dict := some h.objs.size, data := o.data, slots := o.slots } := ?_
      refine hq h' _ ⟨{ cls := o.cls, dict := some h.objs.size, data := o.data, slots := o.slots }, hx', hc, hnc, .inr ⟨h.objs.size, rfl, hxs.symm, ?_⟩⟩ (fun b ob hbx _ hb => ?_)
        (fun o₀ h₀ => by obtain rfl : o = o₀ := Option.some.inj (hx.symm.trans h₀); exact ⟨_, hx', rfl, rfl, rfl, (fun dx e => by rw [hdn] at e; cases e), fun _ => ⟨_, rfl, Heap.get?_none_of_le (Nat.le_refl _)⟩⟩) ?_
      · obtain ⟨o', es, ep, e1, e2, e3, eu, e4⟩ := hn'
        exact ⟨o', es, ep, e1, e2, e3, eu, fun y => by rw [e4 y]; by_cases hy : y = name <;> simp [hy, hmA]⟩
      · exact (hs.2 b (Nat.ne_of_lt (Heap.lt_size hb))).trans ((Heap.get?_update_ne _ _ _ _ hbx).trans (Heap.get?_push_of_some _ hb))
      · rw [hs.1]
        have : ((h.push { cls := .type "dict", data := .dict #[] }).update x fun o => { cls := o.cls, dict := some h.objs.size, data := o.data, slots := o.slots }).objs.size = h.objs.size + 1 := by rw [Heap.size_update, Heap.size_push]
        exact Nat.le_trans (Nat.le_succ _) (Nat.le_of_eq this.symm)
      · refine (hs.2 x hxs).trans (Heap.get?_update_self _ hx₁ ?_)
        have hfr := (Heap.get?_some_iff.mp hx).2
        obtain ⟨oc, od, odt, osl⟩ := o
        cases odt <;> first | rfl | exact hfr
  · have hdx' := hns
    obtain ⟨odx, es, ep, hodx, rest⟩ := hdx'
    have J : InstAt h x o C (some odx) := ⟨hx, hc, ncls, by rw [hdx]; exact hodx⟩
    refine set_plain (s := ⟨h, g, d, t, os⟩) X J Z.sa (ex_osa X J Z ht fun b => ?_)
    refine wpAny_bind (wpAny_pure (wpAny_bind (wpAny_bind (wpAny_loadPart hx ?_))))
    rw [hc]
    refine wpAny_bind ((looks_clsIn X Z.cls).here ?_)
    rw [Z.dict, hdx]
    dsimp only
    rw [if_neg (by decide)]
    refine wpAny_pure ?_
    show wpAny _ _ (Builtin.ObjectAttr.storeInDict dx (.str name t) name v) _ _ _
    unfold Builtin.ObjectAttr.storeInDict Builtin.ObjectAttr.newKeyGuard
    refine wpAny_bind (wpAny_pure (wpAny_bind (wpAny_nsSet1 hns fun h' hn' hs => ?_)))
    obtain ⟨oD, esD, epD, hoD, hdD, hcD⟩ := hn'.count (Within.cons name v hw)
    refine wpAny_bind (wpAny_lookBehind hoD (by rw [hdD]; exact pastItsLine_dict (Nat.le_trans hcD (by rw [List.length_cons, sizeLine_eq]; omega))) ?_)
    wp_walk
    refine hq h' _ ⟨o, (hs.2 x hne.symm).trans hx, hc, hnc, .inr ⟨dx, hdx, hne, hn'⟩⟩ (fun b ob _ hbd hb => ?_)
      (fun o₀ h₀ => ⟨o₀, (hs.2 x hne.symm).trans h₀, rfl, rfl, rfl, (fun _ e => e), fun e => by obtain rfl : o = o₀ := Option.some.inj (hx.symm.trans h₀); rw [hdx] at e; cases e⟩) (Nat.le_of_eq hs.1.symm)
    exact (hs.2 b (hbd o dx hx hdx)).trans hb
end
section
variable {prog : Program} {w : World} {A : Around} {E : Value → Shared → Prop} {h : Heap} {g : Array GenState} {d : Drawn} {t : Nat} {os : OsState}
variable {nm q : Str} {C N : Addr} {bs bm bmB : List Value} {hdct : Bool} {sn : List Str} {sub : List Value} {ab : Bool} {col : Option Bool} {dd : Option Addr} {k0 k1 k2 k3 k5 : Option Value} {B nid newId initId : String}
theorem ex_check_init (F : ExcBaseFacts B nid initId bmB) (hcB : (Value.ref C :: bm).contains (.type B) = true) {M : Model} {e : Addr} {oe : Obj} {rest : List Value} {Q : Unit → Shared → Prop}
    (hC : h.get? C = some (excClassObj nm q C N bs bm hdct sn sub ab col dd k0 k1 k2 k3 k5 newId)) (he : h.get? e = some oe) (hcls : oe.cls = .ref C) (hq : Q () ⟨h, g, d, t, os⟩) :
    wpAny M A (checkBuiltinCall initId ⟨.ref e :: rest, []⟩) Q E ⟨h, g, d, t, os⟩ := by
  have hshort := F.noStar
  simp only [checkBuiltinCall, F.initKind, F.initSplit, F.initRow]
  repeat (first | (with_reducible refine wpAny_loadPart_at he ?_; rw [hcls]) | with_reducible refine wpAny_loadPart_at hC ?_ | (with_reducible refine wpAny_isSubtype_exc hC ?_; rw [hcB]) | wp_step)
  refine wpAny_onRaise ?_
  rw [show ∀ (a b : String) (n : Nat), Bind.check ⟨.positional, "*", B, .self, [⟨"args", .varPos, false⟩]⟩ a b n (List.map (fun x => x.fst) ({ pos := Value.ref e :: rest } : Args).kw) = pure () from
    fun a b n => check_star_args _ _ _ _ _ _]
  exact wpAny_pure hq
theorem ex_vinit (F : ExcBaseFacts B nid initId bmB) (hcB : (Value.ref C :: bm).contains (.type B) = true) {e t0 : Addr} {oe : Obj} {v : Value} {Q : Value → Shared → Prop}
    (hC : h.get? C = some (excClassObj nm q C N bs bm hdct sn sub ab col dd k0 k1 k2 k3 k5 newId)) (he : h.get? e = some oe) (hcls : oe.cls = .ref C) (hdt : oe.data = .fields #[.ref t0, .none, .none, .none, .bool false, .none])
    (hq : ∀ h', (∀ b o, b ≠ e → h.get? b = some o → h'.get? b = some o) → h'.get? e = some { oe with data := .fields #[.ref h.objs.size, .none, .none, .none, .bool false, .none] } → h.objs.size ≤ h'.objs.size → Q .none ⟨h', g, d, t, os⟩) :
    wpAny (model prog w) A (call (.builtin initId) [.ref e, v]) Q E ⟨h, g, d, t, os⟩ := by
  refine wpAny_call (codeAny_call_builtin F.init.plain F.initEntry (ex_check_init F hcB hC he hcls ?_))
  wp_walk
  rw [hdt]
  wp_walk
  rw [hdt]
  wp_walk
  have he' := Heap.get?_push_of_some (h := h) { cls := .type "tuple", data := .seq #[v] } he
  refine hq _ (fun b o hb e1 => (Heap.get?_update_ne _ _ _ _ hb).trans (Heap.get?_push_of_some _ e1)) ?_ (by rw [Heap.size_update, Heap.size_push]; exact Nat.le_succ _)
  rw [Heap.get?_update_self _ he' (by obtain ⟨c1, d1, t1, s1⟩ := oe; obtain rfl : t1 = _ := hdt; rfl)]
  obtain ⟨c1, d1, t1, s1⟩ := oe
  obtain rfl : t1 = _ := hdt
  rfl
end
section
theorem meth_type {prog : Program} {w : World} {A : Around} {E : Value → Shared → Prop} {s : Shared} {K : Frag} {T : String} {name : Str} {v : Value} {pl : Sem Bool} {Q : Value × List Value → Shared → Prop} (X : K.In s.heap) (hf : findCls K (.type T) (.type "type") name = some (.val v))
    (ht : typeOf (.type T) = pure (.type "type")) (hs : Manifest.isStub T = false) (hh : handedIn v = true)
    (hq : Q (v, []) { s with toks := s.toks + 1 }) : wpAny (model prog w) A (getMethod (.type T) name pl) Q E s := by
  have look := looks_findIn (M := model prog w) X (show findIn K (.type "type") "__getattribute__" = some (some (.builtin "type.__getattribute__")) from type_tga)
  have here : Looks (model prog w) s.heap (typeOf (.type T)) (.type "type") := .of_pure ht
  have clear : Looks (model prog w) s.heap (opaqueClassAbove (.type T)) none := .of_pure (by unfold opaqueClassAbove; dsimp only; rw [hs]; rfl)
  unfold getMethod specialOf
  refine wpAny_bind (wpAny_bind (here.here (look.here ?_)))
  dsimp only
  rw [if_pos canon_tga]
  refine wpAny_bind (wpAny_mono (Q := fun u => Q (u, [])) (E := E) (cls_open X clear here type_tga (looks_hook X (r := none) (by rfl)) (by show subIn K _ _ = _; rfl) hf (wpAny_pure ?_)) (fun _ _ z => wpAny_pure z) fun _ _ z => z)
  show wpAny _ _ (handedOut v) _ _ _
  rw [handedOut_of hh]
  exact wpAny_pure hq
end
noncomputable def AV.flat : AV → Bool | .tup _ | .list _ | .inst _ _ _ _ _ _ | .own _ _ | .dict _ _ => false | _ => true
noncomputable def flats : Loc → Bool | [] => true | (_, a) :: l => a.flat && flats l
theorem Rep.flat {V W : View} {v a} (r : Rep V v a) (h : a.flat = true) : Rep W v a := by
  cases r <;> first | (cases h; done) | constructor
theorem lookup_mem : ∀ {l : Loc} {x a}, l.lookup x = some a → (x, a) ∈ l
  | [], _, _, e => by cases e
  | (y, b) :: l, x, a, e => by
    rw [List.lookup_cons] at e
    split at e
    · rename_i q; cases e; rw [beq_iff_eq.mp q]; exact .head _
    · exact .tail _ (lookup_mem e)
theorem flats_of : ∀ {l : Loc} {p}, flats l = true → p ∈ l → p.2.flat = true
  | (y, b) :: l, p, h, hp => by
    unfold flats at h
    rw [Bool.and_eq_true] at h
    rcases List.mem_cons.mp hp with rfl | hp
    · exact h.1
    · exact flats_of h.2 hp
noncomputable def KpX (e : Addr) (fr : List Addr) (h h' : Heap) : Prop :=
  Live h h' ∧ (∀ a o, a ∉ fr → a ≠ e → h.get? a = some o → h'.get? a = some o) ∧ (∀ a o, a ≠ e → h.get? a = some o → ∃ sl, h'.get? a = some { o with slots := sl })
theorem Kp.x {e fr h h'} (k : Kp fr h h') : KpX e fr h h' := ⟨k.1, fun a o n _ q => k.2.1 a o n q, fun a o _ q => k.2.2 a o q⟩
theorem KpX.trans {e fr h h' h''} (x : KpX e fr h h') (y : KpX e fr h' h'') : KpX e fr h h'' :=
  ⟨x.1.trans y.1, fun a o n m q => y.2.1 a o n m (x.2.1 a o n m q), fun a o n q => by
    obtain ⟨sl, q⟩ := x.2.2 a o n q
    obtain ⟨sl', q⟩ := y.2.2 a _ n q
    exact ⟨sl', q⟩⟩
theorem KpX.of {e fr h h'} (k : ∀ a o, a ≠ e → h.get? a = some o → h'.get? a = some o) (hl : There h e → There h' e) : KpX e fr h h' :=
  ⟨fun a ⟨o, q, n⟩ => by
    by_cases z : a = e
    · exact z ▸ hl (z ▸ ⟨o, q, n⟩)
    · exact ⟨o, k a o z q, n⟩, fun a o _ m q => k a o m q, fun a o m q => ⟨o.slots, k a o m q⟩⟩
theorem not_there {h : Heap} {e C t : Addr} {od : Option Addr} {p : Prop} (hx : h.get? e = some { cls := .ref C, dict := od, data := .fields #[.ref t, .none, .none, .none, .bool false, .none] }) (x : There h e) : p := by
  obtain ⟨o, q, n⟩ := x
  obtain rfl := Option.some.inj (hx.symm.trans q)
  exact (n _ rfl).elim
theorem KpX.kp {e fr h h₁ h'} (k0 : ∀ a o, h.get? a = some o → h₁.get? a = some o) (hs : h.objs.size ≤ h₁.objs.size) (hn : h.get? e = none) (k : KpX e fr h₁ h') : Kp fr h h' :=
  ⟨(Live.of_keeps k0).trans k.1, fun a o n q => k.2.1 a o n (fun z => by rw [z, hn] at q; cases q) (k0 a o q), fun a o q => k.2.2 a o (fun z => by rw [z, hn] at q; cases q) (k0 a o q)⟩
theorem St.kpx {c : Cx} {lev ρ h h' e} (ok : c.Ok lev) (S : St c ρ h) (k : KpX e c.fr h h') (he : c.gd.H.get? e = none) (hf : e ∉ c.fr) (fl : flats ρ = true) (hl : ∃ o, h'.get? e = some o) : St c ρ h' := by
  obtain ⟨m, hn, hr⟩ := S.ns
  have ne : ∀ {a : Addr}, a ∈ c.fr → a ≠ e := fun ha z => hf (z ▸ ha)
  refine ⟨⟨m, ?_, fun x a q => ?_⟩, fun a o q => k.2.1 a o (fun z => ok.hX a o q (ok.frX a z)) (fun z => by rw [z, he] at q; cases q) (S.keep a o q), fun env hv => ?_, fun a ha => ?_, fun a ha => k.1 a (S.oth a ha), fun x a oc q => ?_⟩
  · obtain ⟨o, es, ep, q1, q2, q3⟩ := hn
    obtain ⟨sl, q⟩ := k.2.2 c.L o (ne (.head _)) q1
    exact ⟨_, es, ep, q, q2, q3⟩
  · obtain ⟨v, q1, q2⟩ := hr x a q
    exact ⟨v, q1, q2.flat (flats_of fl (lookup_mem q))⟩
  · obtain ⟨a1, L, o, es, ep, b1, c1, d1⟩ := S.frs env hv
    obtain ⟨sl, q⟩ := k.2.2 L o (ne (List.mem_cons_of_mem _ (List.mem_filterMap.mpr ⟨env, hv, b1⟩))) c1
    exact ⟨a1, L, _, es, ep, b1, q, d1⟩
  · by_cases z : a = e
    · exact z ▸ hl
    · obtain ⟨o, q⟩ := S.xlt a ha
      obtain ⟨sl, q⟩ := k.2.2 a o z q
      exact ⟨_, q⟩
  · have := flats_of fl (lookup_mem q)
    cases this
noncomputable def excO (C t : Addr) (od : Option Addr) : Obj := { cls := .ref C, dict := od, data := .fields #[.ref t, .none, .none, .none, .bool false, .none] }
noncomputable def ExcAt (h h' : Heap) (e C : Addr) (ns : List Str) : Prop := ∃ t d mA, h'.get? e = some (excO C t (some d)) ∧ h.get? d = none ∧ h'.Inst e C mA ∧ Within mA ns
theorem not_inter {c : Cx} (hk : c.scope.kind = .function) : interactive c.env = false := by
  unfold interactive
  show (c.scope.kind == .module && _) = false
  rw [hk]; rfl
noncomputable abbrev exBm : List Value := [.ref 32, .type "ValueError", .type "Exception", .type "BaseException", .type "object"]
structure XC (P : Params) (C : Addr) : Prop where
  obj : ∃ nm q N bs sub k0 k1 k2 k3 k5, (KK P).lookup C = some (excClassObj nm q C N bs exBm true [] sub false none none k0 k1 k2 k3 k5 "ValueError.__new__")
  ex : ∃ cd, ExCls (KK P) C cd
  reason : takerIn (KK P) C (sO "reason") = some none
  word : takerIn (KK P) C (sO "word") = some none
theorem pass_all (self : Value) : refuseLoop self "__setattr__" [.type "ValueError", .type "Exception", .type "BaseException", .type "object"] = pure () := PySem.F.store_ValueError.passes self
theorem xc45 (P : Params) : XC P 45 :=
  ⟨⟨sO "BadArgument", sO "BadArgument", 44, [.ref 32], [], some (.ref 36), none, some (.str (sO "BadArgument") 217), some (.str (sO "BadArgument") 225), some (.bool true), by kernel_rfl⟩,
   ⟨{ name := (sO "BadArgument"), bases := [(.ref 32)], mro := [(.ref 45), (.ref 32), (.type "ValueError"), (.type "Exception"), (.type "BaseException"), (.type "object")], ns := 44, qualname := (sO "BadArgument"), hasDict := true, slotNames := [], subclasses := [], abstract := false, collection := none, hasDel := false },
    by kernel_rfl, fun self => by rw [refuseLoop_ref, refuseLoop_ref]; exact pass_all self, by kernel_rfl, by kernel_rfl, by kernel_rfl, by kernel_rfl⟩, by kernel_rfl, by kernel_rfl⟩
theorem xc64 (P : Params) : XC P 64 :=
  ⟨⟨sO "BadInstruction", sO "BadInstruction", 63, [.ref 32], [], some (.ref 48), none, some (.str (sO "BadInstruction") 233), some (.str (sO "BadInstruction") 241), some (.bool true), by kernel_rfl⟩,
   ⟨{ name := (sO "BadInstruction"), bases := [(.ref 32)], mro := [(.ref 64), (.ref 32), (.type "ValueError"), (.type "Exception"), (.type "BaseException"), (.type "object")], ns := 63, qualname := (sO "BadInstruction"), hasDict := true, slotNames := [], subclasses := [], abstract := false, collection := none, hasDel := false },
    by kernel_rfl, fun self => by rw [refuseLoop_ref, refuseLoop_ref]; exact pass_all self, by kernel_rfl, by kernel_rfl, by kernel_rfl, by kernel_rfl⟩, by kernel_rfl, by kernel_rfl⟩
theorem find_vinit (P : Params) : findCls (KK P) (.type "ValueError") (.type "type") "__init__" = some (.val (.builtin "ValueError.__init__")) := by kernel_rfl
theorem ns_ve (P : Params) : nsIn (KK P) mainGlobals "ValueError" = some none := by kernel_rfl
theorem ty_ve : typeOf (.type "ValueError") = pure (.type "type") := kitMeta_of (by decide +kernel)
theorem stub_ve : Manifest.isStub "ValueError" = false := by decide +kernel
theorem hand_ve : handedIn (.builtin "ValueError.__init__") = true := by decide +kernel
section
variable {c : Cx} {lev : Nat} {ρ : Loc} {C e t : Addr} {s : Str} {h : Heap} {tk : Nat} {E : Value → Shared → Prop} {env : Env}
theorem ex_vcall {p1 p2 p3 p4 p5 p6 : Pos} {Q : Flow → Shared → Prop} {pl : Sem Bool} (ok : c.Ok lev) (hk1 : c.env.kindOf "ValueError" = some .globalImplicit) (hk2 : c.env.kindOf "self" = some .local) (hk3 : c.env.kindOf "reason" = some .local) (x : XC c.gd.w.params C)
    (hself : ρ.lookup (Str.ofString "self") = some (.glob (.ref e))) (hreason : ρ.lookup (Str.ofString "reason") = some (.str s)) (fl : flats ρ = true) (S : St c ρ h) (he : c.gd.H.get? e = none) (hf : e ∉ c.fr) (hx : h.get? e = some (excO C t none))
    (hsw : swapsWith (.Call (.Attribute (.Name "ValueError" p1) "__init__" p2) [.Name "self" p3, .Name "reason" p4] [] p5) none p6.line c.env = pure false)
    (hev : eval (.Call (.Attribute (.Name "ValueError" p1) "__init__" p2) [.Name "self" p3, .Name "reason" p4] [] p5) c.env = (do
      let ov ← eval (.Name "ValueError" p1) c.env
      standAt p2.atName
      let (f, first) ← holding [ov] (getMethod ov "__init__" pl)
      callWith p5 f first (backTo p5 (starEach [.Name "self" p3, .Name "reason" p4] c.env)) []))
    (k : ∀ h' tk' t', KpX e c.fr h h' → St c ρ h' → h'.get? e = some (excO C t' none) → Q .next (c.sh h' tk')) :
    wpAny c.M c.B (exec (.Expr (.Call (.Attribute (.Name "ValueError" p1) "__init__" p2) [.Name "self" p3, .Name "reason" p4] [] p5) p6) c.env) Q E (c.sh h tk) := by
  have hV : EvJ c ρ (.Name "ValueError" p1) (.glob (.type "ValueError")) := ev_builtin ok (ns_ve _) PyProof.Rows.Boot.«ValueError» ok.kind hk1 (by decide +kernel) (by decide +kernel)
  have hS : EvJ c ρ (.Name "self" p3) (.glob (.ref e)) := ev_name hself ok.kind hk2 (by decide +kernel)
  have hR : EvJ c ρ (.Name "reason" p4) (.str s) := ev_name hreason ok.kind hk3 (by decide +kernel)
  refine wpAny_Expr ?_ (not_inter ok.kind) hsw
  refine MethodCall_ (hV h tk _ _ S fun h1 tk1 v1 k1 r1 => ?_) hev
  obtain rfl := r1.i
  have S1 := S.kp ok k1
  have X1 := (S1.gr ok).kx
  refine meth_type (T := "ValueError") (name := "__init__") (v := .builtin "ValueError.__init__") (pl := pl) (K := KK c.gd.w.params) (s := c.sh h1 tk1) X1 (find_vinit c.gd.w.params) ty_ve stub_ve hand_ve ?_
  refine callWith_method1 (evs_cons ok hS (evs_cons ok hR evs_nil rfl) rfl _ _ _ _ _ S1 fun h2 tk2 vs k2 rs => ?_) rfl rfl
  have S2 := S1.kp ok k2
  replace rs := rs.i; obtain ⟨_, _, rfl, r1, rs⟩ := rs
  replace rs := rs.i; obtain ⟨_, _, rfl, r2, rs⟩ := rs
  obtain rfl := rs.i
  obtain rfl := r1.i
  obtain ⟨nm, q, N, bs, sub, k0', k1', k2', k3', k5', hl⟩ := x.obj
  have hx2 := k2.2.1 e _ hf (k1.2.1 e _ hf hx)
  refine ex_vinit (e := e) (t0 := t) PySem.F.excBase_ValueError (by kernel_rfl) ((S2.gr ok).kx _ _ hl) hx2 rfl rfl fun h3 kk he3 hs3 => ?_
  have kx : KpX e c.fr h h3 := ((k1.trans k2).x).trans (.of kk (not_there hx2))
  exact k h3 _ _ kx (S.kpx ok kx he hf fl ⟨_, he3⟩) he3
theorem ex_put1 {attr y : Str} {a : AV} {p1 p2 p3 p4 : Pos} {Q : Flow → Shared → Prop} (ok : c.Ok lev) (hk2 : c.env.kindOf "self" = some .local) (hk3 : c.env.kindOf y = some .local) (hy : (y == ("__debug__" : Str)) = false) (x : XC c.gd.w.params C) (ht : takerIn (KK c.gd.w.params) C attr = some none)
    (hself : ρ.lookup (Str.ofString "self") = some (.glob (.ref e))) (hv : ρ.lookup y = some a) (S : St c ρ h) (hf : e ∉ c.fr) (hx : h.get? e = some (excO C t none))
    (hsw : swapsWith (.Name y p3) (some (.Attribute (.Name "self" p1) attr p2)) p4.line c.env = pure false)
    (k : ∀ h' tk', KpX e c.fr h h' → (∃ d mA, h'.get? e = some (excO C t (some d)) ∧ h.get? d = none ∧ h'.Inst e C mA ∧ Within mA [attr]) → Q .next (c.sh h' tk')) :
    wpAny c.M c.B (exec (.Assign [.Attribute (.Name "self" p1) attr p2] (.Name y p3) p4) c.env) Q E (c.sh h tk) := by
  have hS : EvJ c ρ (.Name "self" p1) (.glob (.ref e)) := ev_name hself ok.kind hk2 (by decide +kernel)
  have hR : EvJ c ρ (.Name y p3) a := ev_name hv ok.kind hk3 hy
  refine plainObj_wpAny_Assign_Attribute (hR h tk _ _ S fun h1 tk1 v1 k1 r1 => ?_) hsw
  refine hS _ _ _ _ (S.kp ok k1) fun h2 tk2 v2 k2 r2 => ?_
  obtain rfl := r2.i
  have k12 := k1.trans k2
  have S2 := S.kp ok k12
  have hx2 := k12.2.1 e _ hf hx
  obtain ⟨cd, Z⟩ := x.ex
  refine ex_store (ns := []) (mA := fun _ => none) (S2.gr ok).kx Z ht ⟨_, hx2, rfl, (fun c q => nomatch q), .inl ⟨rfl, fun _ => rfl⟩⟩ (fun h3 tk3 I3 kb ke hs => ?_) Within.nil (Nat.zero_le _)
  obtain ⟨o₁, ho, oc, od, os, _, hd⟩ := ke _ hx2
  obtain ⟨d, hd, hdn⟩ := hd rfl
  refine k h3 tk3 (k12.x.trans (.of (fun b o hb q => kb b o hb (fun o₀ dx q1 q2 => by obtain rfl := Option.some.inj (hx2.symm.trans q1); cases q2) q) (not_there hx2))) ⟨d, _, ?_, ?_, I3, Within.cons _ _ Within.nil⟩
  · rw [ho]
    obtain ⟨c1, d1, t1, s1⟩ := o₁
    obtain rfl : c1 = _ := oc
    obtain rfl : d1 = _ := hd
    obtain rfl : t1 = _ := od
    obtain rfl : s1 = _ := os
    rfl
  · cases q : h.get? d with
    | none => rfl
    | some o =>
      obtain ⟨sl, q'⟩ := k12.2.2 d o q
      rw [hdn] at q'; cases q'
theorem ex_put2 {attr y : Str} {a : AV} {d : Addr} {mA : Str → Option Value} {ns : List Str} {p1 p2 p3 p4 : Pos} {Q : Flow → Shared → Prop} (ok : c.Ok lev) (hk2 : c.env.kindOf "self" = some .local) (hk3 : c.env.kindOf y = some .local) (hy : (y == ("__debug__" : Str)) = false) (x : XC c.gd.w.params C) (ht : takerIn (KK c.gd.w.params) C attr = some none)
    (hself : ρ.lookup (Str.ofString "self") = some (.glob (.ref e))) (hv : ρ.lookup y = some a) (S : St c ρ h) (hf : e ∉ c.fr) (hfd : d ∉ c.fr) (hx : h.get? e = some (excO C t (some d))) (I : h.Inst e C mA) (hw : Within mA ns) (hl : ns.length ≤ 1000)
    (hsw : swapsWith (.Name y p3) (some (.Attribute (.Name "self" p1) attr p2)) p4.line c.env = pure false)
    (k : ∀ h' tk', KpX d c.fr h h' → h'.get? e = some (excO C t (some d)) → Q .next (c.sh h' tk')) :
    wpAny c.M c.B (exec (.Assign [.Attribute (.Name "self" p1) attr p2] (.Name y p3) p4) c.env) Q E (c.sh h tk) := by
  have hS : EvJ c ρ (.Name "self" p1) (.glob (.ref e)) := ev_name hself ok.kind hk2 (by decide +kernel)
  have hR : EvJ c ρ (.Name y p3) a := ev_name hv ok.kind hk3 hy
  refine plainObj_wpAny_Assign_Attribute (hR h tk _ _ S fun h1 tk1 v1 k1 r1 => ?_) hsw
  refine hS _ _ _ _ (S.kp ok k1) fun h2 tk2 v2 k2 r2 => ?_
  obtain rfl := r2.i
  have k12 := k1.trans k2
  have S2 := S.kp ok k12
  have hx2 := k12.2.1 e _ hf hx
  have I2 : h2.Inst e C mA := by
    obtain ⟨o, q1, q2, q3, q4⟩ := I
    obtain rfl := Option.some.inj (q1.symm.trans hx)
    refine ⟨_, hx2, q2, q3, ?_⟩
    rcases q4 with ⟨q4, _⟩ | ⟨d', q4, q5, q6⟩
    · cases q4
    · obtain rfl : d = d' := Option.some.inj q4
      exact .inr ⟨d, rfl, q5, q6.at fun o q => k12.2.1 d o hfd q⟩
  obtain ⟨cd, Z⟩ := x.ex
  refine ex_store (ns := ns) (S2.gr ok).kx Z ht I2 (fun h3 tk3 I3 kb ke hs => ?_) hw hl
  obtain ⟨o₁, ho, oc, od, os, hd, _⟩ := ke _ hx2
  have hd := hd d rfl
  have ho : h3.get? e = some (excO C t (some d)) := by
    rw [ho]
    obtain ⟨c1, d1, t1, s1⟩ := o₁
    obtain rfl : c1 = _ := oc
    obtain rfl : d1 = _ := hd
    obtain rfl : t1 = _ := od
    obtain rfl : s1 = _ := os
    rfl
  refine k h3 tk3 (k12.x.trans (.of (fun b o hb q => ?_) ?_)) ho
  · by_cases z : b = e
    · subst z
      obtain rfl := Option.some.inj (hx2.symm.trans q)
      exact ho
    · exact kb b o z (fun o₀ dx q1 q2 => by obtain rfl := Option.some.inj (hx2.symm.trans q1); exact fun z' => hb (z'.trans (Option.some.inj q2).symm)) q
  intro _
  obtain ⟨o3, r1, _, _, r4⟩ := I3
  obtain rfl := Option.some.inj (r1.symm.trans ho)
  rcases r4 with ⟨r4, _⟩ | ⟨d', r4, _, r6⟩
  · cases r4
  · obtain rfl : d = d' := Option.some.inj r4
    exact There.ns r6.ns
end
theorem board_init {k : Cc} {lev : Nat} {C e t : Addr} {s : Str} {ts : Tok} {h : Heap} {tk : Nat} {R : PySem.Result → Shared → Prop} (ok : k.Ok (lev + 1)) (x : XC k.gd.w.params C) (fo : FrOk h k.l) (hH : ∀ a o, k.gd.H.get? a = some o → h.get? a = some o) (hX : ∀ a ∈ k.X, ∃ o, h.get? a = some o)
    (hx : h.get? e = some (excO C t none)) (he : k.gd.H.get? e = none) (hf : e ∉ frs k.l)
    (kR : ∀ h' tk', KpX e (frs k.l) h h' → (∃ t d mA, h'.get? e = some (excO C t (some d)) ∧ h.get? d = none ∧ h'.Inst e C mA ∧ Within mA [sO "reason"]) → R (.ok (.ret .none)) (k.sh h' tk')) :
    codeAny (MW k.gd.w) k.A (.call (.ref 29) ⟨[.ref e, .str s ts], []⟩) R (k.sh h tk) := by
  refine enter_fn (as := [.glob (.ref e), .str s]) [sO "self", sO "reason"] (show (KK k.gd.w.params).lookup 29 = some (o29 k.gd.w.params) by kernel_rfl) (by kernel_rfl)
    (fun s vs hl X => by obtain ⟨a0, a1, rfl⟩ := len2 hl; exact BindsTo.of_defaults (T := 22) rfl (X _ _ (show (KK k.gd.w.params).lookup 22 = some (o22 k.gd.w.params) by kernel_rfl)) rfl rfl (by kernel_rfl)) (by decide +kernel)
    ok fo hH hX (.cons .glob (.cons .str .nil)) (notOwns_of rfl) (fun h₁ tk₁ okc S hk₁ hlt _ => ?_) (by kernel_rfl) (by kernel_rfl) (by kernel_rfl) (by decide +kernel)
  have hL : ∀ a o, h.get? a = some o → a ≠ h.objs.size := fun a o q => Nat.ne_of_lt (Heap.lt_size q)
  generalize hc : k.cx (sO "BoardError.__init__") (fnScope (astIn 1 0)) h.objs.size 29 (.ref 28) = c at okc S ⊢
  have hs : c.scope = fnScope (astIn 1 0) := by rw [← hc]; rfl
  have hgd : c.gd = k.gd := by rw [← hc]; rfl
  have hfr : c.fr = h.objs.size :: frs k.l := by rw [← hc]; rfl
  have hsh : ∀ h tk, k.sh h tk = c.sh h tk := fun _ _ => by rw [← hc]; rfl
  have x' : XC c.gd.w.params C := by rw [hgd]; exact x
  have he' : c.gd.H.get? e = none := by rw [hgd]; exact he
  have hf' : e ∉ c.fr := by rw [hfr]; exact fun z => (List.mem_cons.mp z).elim (hL e _ hx) hf
  have fl : flats ([sO "self", sO "reason"].zip [AV.glob (.ref e), AV.str s]).reverse = true := rfl
  have l1 : ([sO "self", sO "reason"].zip [AV.glob (.ref e), AV.str s]).reverse.lookup (Str.ofString "self") = some (.glob (.ref e)) := by
    show List.lookup _ [(sO "reason", AV.str s), (sO "self", AV.glob (.ref e))] = _
    walk_at "lk"
  have l2 : ([sO "self", sO "reason"].zip [AV.glob (.ref e), AV.str s]).reverse.lookup (Str.ofString "reason") = some (.str s) := by
    show List.lookup _ [(sO "reason", AV.str s), (sO "self", AV.glob (.ref e))] = _
    walk_at "lk"
  generalize ([sO "self", sO "reason"].zip [AV.glob (.ref e), AV.str s]).reverse = ρ at S fl l1 l2
  rw [show MW k.gd.w = c.M by rw [← hc]; rfl, hsh]
  refine wpAny_execs_cons (ex_vcall okc (kd hs (by kernel_rfl)) (kd hs (by kernel_rfl)) (kd hs (by kernel_rfl)) x' l1 l2 fl S he' hf' (hk₁ _ _ hx) rfl rfl fun h2 tk2 t2 k2 S2 hx2 => ?_)
  refine wpAny_execs_cons (ex_put1 okc (kd hs (by kernel_rfl)) (kd hs (by kernel_rfl)) (by decide +kernel) x' x'.reason l1 l2 S2 hf' hx2 rfl fun h3 tk3 k3 hd => ?_)
  refine wpAny_execs_nil ?_
  obtain ⟨d, mA, q1, q2, q3, q4⟩ := hd
  have kk := k2.trans k3
  rw [hfr] at kk
  rw [← hsh]
  refine kR h3 _ ⟨(Live.of_keeps hk₁).trans kk.1, fun a o n m q => kk.2.1 a o (fun z => (List.mem_cons.mp z).elim (hL a o q) n) m (hk₁ a o q), fun a o m q => kk.2.2 a o m (hk₁ a o q)⟩ ⟨t2, d, mA, q1, ?_, q3, q4⟩
  cases q : h.get? d with
  | none => rfl
  | some o =>
    obtain ⟨sl, z⟩ := k2.2.2 d o (fun z => by subst z; obtain rfl := Option.some.inj (hx.symm.trans q); rw [hx2] at q2; cases q2) (hk₁ d o q)
    rw [q2] at z; cases z
open Builtin Builtin.Str Builtin.Int Builtin.Float
noncomputable def f08 : FormatSpec := { fill := 48, align := 61, width := some 8, type := some 120 }
noncomputable def hexX (a : Int) : PySem.Str := intField' f08 (decide (a < 0)) [] ((Nat.toDigits 16 a.natAbs).map fun c => (if (120 : Nat) == 88 then c.toUpper else c).toNat) [] 4
noncomputable abbrev s08 : PySem.Str := PySem.Str.ofString "08x"
theorem parse08 (name : String) : parseFormatSpec s08.cps.toList name 62 = .ok f08 := by rfl
theorem gives_08x (a : Int) (t u : Tok) (hx : (hexX a).length ≤ sizeLine) : Gives («int.__format__» ⟨[.int a t, .str s08 u], []⟩) (.str (hexX a)) := fun prog w A R s hq => by
  have hp := parse08 "int"
  have hne : (s08.length == 0) = false := by decide +kernel
  have hasc : ((s08.cps.toList.drop 1).any (· ≥ 128) || (s08.cps.getD 0 0 ≥ 128 && !([60, 62, 61, 94] : List Nat).contains (s08.cps.getD 1 0))) = false := by decide +kernel
  unfold Builtin.«int.__format__»
  simp only [selfAndOne, noKeywords, Int.intOfSelf, asInt?, asStr?, List.isEmpty_nil, if_true, pure_bind, bind_pure, bind_assoc, hne, hasc, Bool.false_eq_true, if_false,
    show (Value.str s08 u == Value.none) = false from rfl]
  refine wpAny_bind (wpAny_typeNameOf (T := "str") (typeIs_str _ _ _) (by decide) fun _ => ?_)
  first | refine wpAny_bind (wpAny_typeNameOfCut_int ?_) | refine wpAny_bind (wpAny_typeNameOf_int ?_)
  simp only [hp]
  rw [if_pos (by decide +kernel)]
  show wpAny _ _ (retStr (hexX a)) _ _ _
  exact Gives.tree (.str (hexX a)) prog w A R s hq
theorem hex_len {a : Int} (h0 : 0 ≤ a) (h1 : a < 2 ^ 32) : (hexX a).length ≤ 8 := by
  unfold hexX
  have hl := (Nat.length_toDigits_le_iff (b := 16) (n := a.natAbs) (k := 8) (by decide) (by decide)).mpr (by omega)
  have hp := Nat.length_toDigits_pos (b := 16) (n := a.natAbs)
  rw [intField'_length_plain _ _ _ _ rfl rfl (by cases q : Nat.toDigits 16 a.natAbs with | nil => rw [q] at hp; cases hp | cons _ _ => rfl)]
  rw [decide_eq_false (by omega), List.length_map]
  show max 8 (0 + _) ≤ 8
  omega
section
variable {c : Cx} {lev : Nat} {ρ : Loc}
theorem ev_hex {e : Expr} {a : Int} {pre : Str} {k1 k2} {p1 p2 p3 p4 p5 : Pos} (h1 : EvJ c ρ e (.int a)) (h0 : 0 ≤ a) (hlt : a < 2 ^ 32) (hpre : pre.length ≤ 100) :
    EvJ c ρ (.JoinedStr [.Constant (.str pre) k1 p1, .FormattedValue e (-1) (some (.JoinedStr [.Constant (.str s08) k2 p2] p3)) p4] p5) (.str ((Str.empty ++ pre) ++ hexX a)) := fun h tk Q E S k => by
  have hl := hex_len h0 hlt
  have hz := sizeLine_eq
  have e1 : (Str.empty ++ pre).length ≤ 100 := by rw [strLen_append]; show 0 + _ ≤ _; omega
  refine JoinedStr_many (joinParts_cons (wpAny_Constant_str ⟨by omega, joinParts_cons (wpAny_FormattedValue_spec (h1 h (tk + 1) _ _ S fun h' tk' v k' r => ?_))⟩))
  obtain ⟨_, rfl⟩ := r.i
  rename_i t
  refine JoinedStr_one (wpAny_Constant_str ⟨_, _, rfl, ?_⟩)
  refine wpAny_formatField_spec (by decide +kernel) (fun s' => typeIs_int s' a t) PySem.F.slot_int_format PySem.F.entry_int_format PySem.F.args_int_format_2 (fun u => gives_08x a t u (by omega)) ?_ (by decide +kernel) (by omega)
  refine ⟨by rw [strLen_append]; omega, joinParts_nil (k _ _ _ k' .str) (by rw [strLen_append]; omega)⟩
end
theorem spec32 (P : Params) : specialIn (KK P) (.ref 32) "__getattribute__" = some (some (.builtin "type.__getattribute__")) := by kernel_rfl
theorem reads32 (P : Params) : readsIn (KK P) 32 (.type "type") = true := by kernel_rfl
theorem find32 (P : Params) : findCls (KK P) (.ref 32) (.type "type") "__init__" = some (.val (.ref 29)) := by kernel_rfl
theorem glob32 (P : Params) : nsIn (KK P) mainGlobals "BoardError" = some (some (.ref 32)) := by kernel_rfl
theorem look29 (P : Params) : (KK P).lookup 29 = some (o29 P) := by kernel_rfl
section
variable {c : Cx} {lev : Nat} {ρ : Loc} {C e t : Addr} {word : Int} {h : Heap} {tk : Nat} {E : Value → Shared → Prop} {env : Env}
theorem ex_bcall {p1 p2 p3 p5 p6 : Pos} {ex : Expr} {txt : Str} {Q : Flow → Shared → Prop} {pl : Sem Bool} (ok : c.Ok (lev + 2)) (hk1 : c.env.kindOf "BoardError" = some .globalImplicit) (hk2 : c.env.kindOf "self" = some .local) (x : XC c.gd.w.params C)
    (hself : ρ.lookup (Str.ofString "self") = some (.glob (.ref e))) (hT : EvJ c ρ ex (.str txt)) (fl : flats ρ = true) (S : St c ρ h) (he : c.gd.H.get? e = none) (hf : e ∉ c.fr) (hx : h.get? e = some (excO C t none))
    (hsw : swapsWith (.Call (.Attribute (.Name "BoardError" p1) "__init__" p2) [.Name "self" p3, ex] [] p5) none p6.line c.env = pure false)
    (hev : eval (.Call (.Attribute (.Name "BoardError" p1) "__init__" p2) [.Name "self" p3, ex] [] p5) c.env = (do
      let ov ← eval (.Name "BoardError" p1) c.env
      standAt p2.atName
      let (f, first) ← holding [ov] (getMethod ov "__init__" pl)
      callWith p5 f first (backTo p5 (starEach [.Name "self" p3, ex] c.env)) []))
    (hs1 : starEach [.Name "self" p3, ex] c.env = (false, eval (.Name "self" p3) c.env) :: starEach [ex] c.env) (hs2 : starEach [ex] c.env = (false, eval ex c.env) :: starEach [] c.env)
    (k : ∀ h' tk', KpX e c.fr h h' → St c ρ h' → (∃ t d mA, h'.get? e = some (excO C t (some d)) ∧ h.get? d = none ∧ h'.Inst e C mA ∧ Within mA [sO "reason"]) → Q .next (c.sh h' tk')) :
    wpAny c.M c.B (exec (.Expr (.Call (.Attribute (.Name "BoardError" p1) "__init__" p2) [.Name "self" p3, ex] [] p5) p6) c.env) Q E (c.sh h tk) := by
  have hV : EvJ c ρ (.Name "BoardError" p1) (.glob (.ref 32)) := ev_global ok (glob32 _) ok.kind hk1 (by decide +kernel)
  have hS : EvJ c ρ (.Name "self" p3) (.glob (.ref e)) := ev_name hself ok.kind hk2 (by decide +kernel)
  refine wpAny_Expr ?_ (not_inter ok.kind) hsw
  refine MethodCall_ (hV h tk _ _ S fun h1 tk1 v1 k1 r1 => ?_) hev
  obtain rfl := r1.i
  have S1 := S.kp ok k1
  have X1 := (S1.gr ok).kx
  refine method_cls (C := 32) (name := "__init__") (pl := pl) (K := KK c.gd.w.params) (s := c.sh h1 tk1) X1 (spec32 c.gd.w.params) (cls_value (C := 32) (mc := .type "type") (name := "__init__") (v := .ref 29) (K := KK c.gd.w.params) (s := c.sh h1 tk1) X1 (reads32 c.gd.w.params) (find32 c.gd.w.params) rfl ?_)
  refine callWith_def (f := 29) (o := o29 c.gd.w.params) rfl (evs_cons ok hS (evs_cons ok hT evs_nil hs2) hs1 _ _ _ _ _ S1 fun h2 tk2 vs k2 rs => ?_) hs1
  have S2 := S1.kp ok k2
  refine ⟨(S2.gr ok).kx _ _ (look29 _), ?_⟩
  replace rs := rs.i; obtain ⟨_, _, rfl, r1, rs⟩ := rs
  replace rs := rs.i; obtain ⟨_, _, rfl, r2, rs⟩ := rs
  obtain rfl := rs.i
  obtain rfl := r1.i
  obtain ⟨_, rfl⟩ := r2.i
  have k12 := k1.trans k2
  have hx2 := k12.2.1 e _ hf hx
  refine wpAny_call ?_
  refine board_init (k := c.cc) (t := t) (C := C) (e := e) ok.cc x (S2.cc ok) S2.keep S2.xlt hx2 he hf fun h3 tk3 k3 hd => ?_
  have kx : KpX e c.fr h h3 := k12.x.trans k3
  obtain ⟨t', d, mA, q1, q2, q3, q4⟩ := hd
  refine k h3 _ kx (S.kpx ok kx he hf fl ⟨_, q1⟩) ⟨t', d, mA, q1, ?_, q3, q4⟩
  cases q : h.get? d with
  | none => rfl
  | some o =>
    obtain ⟨sl, q'⟩ := k12.2.2 d o q
    rw [q2] at q'; cases q'
end
theorem bad_init {k : Cc} {lev : Nat} {C e t : Addr} {word : Int} {ts : Tok} {h : Heap} {tk : Nat} {R : PySem.Result → Shared → Prop} (ok : k.Ok (lev + 3)) (x : XC k.gd.w.params C) (fo : FrOk h k.l) (hH : ∀ a o, k.gd.H.get? a = some o → h.get? a = some o) (hX : ∀ a ∈ k.X, ∃ o, h.get? a = some o)
    (hx : h.get? e = some (excO C t none)) (he : k.gd.H.get? e = none) (hf : e ∉ frs k.l) (h0 : 0 ≤ word) (hlt : word < 2 ^ 32)
    (kR : ∀ h' tk', KpX e (frs k.l) h h' → (∃ t d, h'.get? e = some (excO C t (some d))) → R (.ok (.ret .none)) (k.sh h' tk')) :
    codeAny (MW k.gd.w) k.A (.call (.ref 61) ⟨[.ref e, .int word ts], []⟩) R (k.sh h tk) := by
  refine enter_fn (as := [.glob (.ref e), .int word]) [sO "self", sO "word"] (show (KK k.gd.w.params).lookup 61 = some (o61 k.gd.w.params) by kernel_rfl) (by kernel_rfl)
    (fun s vs hl X => by obtain ⟨a0, a1, rfl⟩ := len2 hl; exact .of_eq (by kernel_rfl)) (by decide +kernel)
    ok fo hH hX (.cons .glob (.cons .int .nil)) (notOwns_of rfl) (fun h₁ tk₁ okc S hk₁ hlt' _ => ?_) (by kernel_rfl) (by kernel_rfl) (by kernel_rfl) (by decide +kernel)
  have hL : ∀ a o, h.get? a = some o → a ≠ h.objs.size := fun a o q => Nat.ne_of_lt (Heap.lt_size q)
  generalize hc : k.cx (sO "BadInstruction.__init__") (fnScope (astIn 3 0)) h.objs.size 61 (.ref 60) = c at okc S ⊢
  have hs : c.scope = fnScope (astIn 3 0) := by rw [← hc]; rfl
  have hgd : c.gd = k.gd := by rw [← hc]; rfl
  have hfr : c.fr = h.objs.size :: frs k.l := by rw [← hc]; rfl
  have hsh : ∀ h tk, k.sh h tk = c.sh h tk := fun _ _ => by rw [← hc]; rfl
  have x' : XC c.gd.w.params C := by rw [hgd]; exact x
  have he' : c.gd.H.get? e = none := by rw [hgd]; exact he
  have hf' : e ∉ c.fr := by rw [hfr]; exact fun z => (List.mem_cons.mp z).elim (hL e _ hx) hf
  have fl : flats ([sO "self", sO "word"].zip [AV.glob (.ref e), AV.int word]).reverse = true := rfl
  have l1 : ([sO "self", sO "word"].zip [AV.glob (.ref e), AV.int word]).reverse.lookup (Str.ofString "self") = some (.glob (.ref e)) := by
    show List.lookup _ [(sO "word", AV.int word), (sO "self", AV.glob (.ref e))] = _
    walk_at "lk"
  have l2 : ([sO "self", sO "word"].zip [AV.glob (.ref e), AV.int word]).reverse.lookup (Str.ofString "word") = some (.int word) := by
    show List.lookup _ [(sO "word", AV.int word), (sO "self", AV.glob (.ref e))] = _
    walk_at "lk"
  generalize ([sO "self", sO "word"].zip [AV.glob (.ref e), AV.int word]).reverse = ρ at S fl l1 l2
  rw [show MW k.gd.w = c.M by rw [← hc]; rfl, hsh]
  have kw : c.env.kindOf (Str.ofString "word") = some .local := kd hs (by kernel_rfl)
  refine wpAny_execs_cons (ex_bcall okc (kd hs (by kernel_rfl)) (kd hs (by kernel_rfl)) x' l1 (ev_hex (ev_name l2 okc.kind kw (by decide +kernel)) h0 hlt (by decide +kernel)) fl S he' hf' (hk₁ _ _ hx) rfl rfl rfl rfl fun h2 tk2 k2 S2 hx2 => ?_)
  obtain ⟨t2, d, mA, q1, q2, q3, q4⟩ := hx2
  have hd' : ∀ a o, h₁.get? a = some o → a ≠ d := fun a o q z => by subst z; rw [q2] at q; cases q
  have hfd : d ∉ c.fr := fun z => by
    rw [hfr] at z
    rcases List.mem_cons.mp z with z | z
    · obtain ⟨m, ⟨o, es, ep, q, _⟩, _⟩ := S.ns
      have hcL : c.L = h.objs.size := by rw [← hc]; rfl
      exact hd' _ _ q (hcL.trans z.symm)
    · obtain ⟨env, hv, hb⟩ := List.mem_filterMap.mp z
      obtain ⟨a1, L, o, es, ep, b1, c1, d1⟩ := S.frs env (by rw [← hc]; exact hv)
      obtain rfl : L = d := Option.some.inj (b1.symm.trans hb)
      exact hd' _ _ c1 rfl
  refine wpAny_execs_cons (ex_put2 okc (kd hs (by kernel_rfl)) kw (by decide +kernel) x' x'.word l1 l2 S2 hf' hfd q1 q3 q4 (by decide) rfl fun h3 tk3 k3 hx3 => ?_)
  refine wpAny_execs_nil ?_
  rw [hfr] at k2 k3
  rw [← hsh]
  refine kR h3 _ ⟨(Live.of_keeps hk₁).trans (k2.1.trans k3.1), fun a o n m q => ?_, fun a o m q => ?_⟩ ⟨t2, d, hx3⟩
  · have n' : a ∉ h.objs.size :: frs k.l := fun z => (List.mem_cons.mp z).elim (hL a o q) n
    exact k3.2.1 a o n' (hd' a o (hk₁ a o q)) (k2.2.1 a o n' m (hk₁ a o q))
  · obtain ⟨sl, q'⟩ := k2.2.2 a o m (hk₁ a o q)
    obtain ⟨sl', q''⟩ := k3.2.2 a _ (hd' a o (hk₁ a o q)) q'
    exact ⟨sl', q''⟩
noncomputable abbrev Cx.Ai (c : Cx) (C : Addr) (vs : List Value) : Around := c.B.under (.builtin "type.__call__" ⟨.ref C :: vs, []⟩)
noncomputable def Cx.ci (c : Cx) (C : Addr) (vs : List Value) : Cc := ⟨c.gd, c.Ai C vs, c.env :: c.outer, c.X, c.g, c.d, c.os⟩
theorem tc_weight (C : Addr) (vs : List Value) : (Code.builtin "type.__call__" ⟨.ref C :: vs, []⟩).weight = 1 := by kernel_rfl
theorem tc_cunits (C : Addr) (vs : List Value) : (Code.builtin "type.__call__" ⟨.ref C :: vs, []⟩).cUnits = 1 := by kernel_rfl
theorem tc_envs (as : Args) : (Code.builtin "type.__call__" as).envs = [] := by kernel_rfl
theorem Cx.Ok.ci {c : Cx} {lev} (ok : c.Ok (lev + 2)) (C : Addr) (vs : List Value) : (c.ci C vs).Ok lev := by
  refine ⟨ok.cc.gr, ?_, ?_, ?_, ok.cc.hand, ok.cc.frX, ok.cc.hX⟩
  · show pushEnvs (Code.builtin "type.__call__" ⟨.ref C :: vs, []⟩).envs c.B.frames = _
    rw [tc_envs]
    exact ok.cc.stack
  · have h1 : c.B.depth + (lev + 1) ≤ 900 := ok.cc.depth
    show c.B.depth + (Code.builtin "type.__call__" ⟨.ref C :: vs, []⟩).weight + lev ≤ 900
    rw [tc_weight]
    omega
  · have h1 : c.B.units + 20 * (lev + 1) ≤ 9000 := ok.cc.units
    show c.B.units + (Code.builtin "type.__call__" ⟨.ref C :: vs, []⟩).cUnits + 20 * lev ≤ 9000
    rw [tc_cunits]
    omega
theorem find45 (P : Params) : findIn (KK P) (.ref 45) "__init__" = some (some (.ref 29)) := by kernel_rfl
theorem find64 (P : Params) : findIn (KK P) (.ref 64) "__init__" = some (some (.ref 61)) := by kernel_rfl
theorem ty29 (P : Params) : typeIn (KK P) (.ref 29) = some (.type "function") := by kernel_rfl
theorem ty61 (P : Params) : typeIn (KK P) (.ref 61) = some (.type "function") := by kernel_rfl
noncomputable def Made1 (c : Cx) (h h' : Heap) (e C : Addr) : Prop := Kp c.fr h h' ∧ h.objs.size ≤ e ∧ h.get? e = none ∧ ∃ t d, h'.get? e = some (excO C t (some d))
section
variable {c : Cx} {lev : Nat} {ρ : Loc} {C : Addr} {h : Heap} {tk : Nat} {Q : Value → Shared → Prop} {E : Value → Shared → Prop}
theorem live_fr {c : Cx} {ρ h} (S : St c ρ h) : ∀ a ∈ c.fr, ∃ o, h.get? a = some o ∧ ∀ vs, o.data ≠ .fields vs := fun a ha => by
  rcases List.mem_cons.mp ha with z | z
  · obtain ⟨m, ⟨o, es, ep, q, q2, _⟩, _⟩ := S.ns
    exact ⟨o, z ▸ q, fun vs q3 => by rw [q2] at q3; cases q3⟩
  · obtain ⟨env, hv, hb⟩ := List.mem_filterMap.mp z
    obtain ⟨a1, L, o, es, ep, b1, c1, d1⟩ := S.frs env hv
    obtain rfl : L = a := Option.some.inj (b1.symm.trans hb)
    exact ⟨o, c1, fun vs q3 => by rw [d1] at q3; cases q3⟩
theorem ex_made {vs : List Value} {fI : Addr} (ok : c.Ok lev) (x : XC c.gd.w.params C) (hi : findIn (KK c.gd.w.params) (.ref C) "__init__" = some (some (.ref fI))) (hf : typeIn (KK c.gd.w.params) (.ref fI) = some (.type "function")) (S : St c ρ h) (hv : vs.length ≤ 1000)
    (hinit : ∀ h1 e t R, h.objs.size ≤ e → (∀ b o, h.get? b = some o → h1.get? b = some o) → h.objs.size ≤ h1.objs.size → h.get? e = none → h1.get? e = some (excO C t none) → c.gd.H.get? e = none → e ∉ c.fr →
      (∀ h' tk', KpX e c.fr h1 h' → (∃ t d, h'.get? e = some (excO C t (some d))) → R (.ok (.ret .none)) (c.sh h' tk')) → codeAny c.M (c.Ai C vs) (.call (.ref fI) ⟨.ref e :: vs, []⟩) R (c.sh h1 tk))
    (k : ∀ h' tk' e, Made1 c h h' e C → Q (.ref e) (c.sh h' tk')) : wpAny c.M c.B (call (.ref C) vs) Q E (c.sh h tk) := by
  obtain ⟨nm, q, N, bs, sub, k0', k1', k2', k3', k5', hl⟩ := x.obj
  have X := (S.gr ok).kx
  refine ex_call (h := h) PySem.F.excBase_ValueError (by kernel_rfl) (by kernel_rfl) (by kernel_rfl) X (X _ _ hl) hi hf (fun h1 e hs hm => ?_) (by rw [sizeLine_eq]; omega)
  obtain ⟨kk, hn, t, ht, _, _⟩ := hm
  have he : c.gd.H.get? e = none := by
    cases q : c.gd.H.get? e with
    | none => rfl
    | some o => rw [S.keep e o q] at hn; cases hn
  have hfr : e ∉ c.fr := fun z => by
    obtain ⟨o, q, _⟩ := live_fr S e z
    rw [hn] at q; cases q
  have hs1 : h.objs.size ≤ h1.objs.size := Nat.le_trans hs (Nat.le_of_lt (Heap.lt_size ht))
  refine wpAny_call (hinit h1 e t _ hs kk hs1 hn ht he hfr fun h' tk' kx hx => ⟨rfl, k h' tk' e ⟨kx.kp kk hs1 hn, hs, hn, hx⟩⟩)
theorem ex_make45 {s : Str} {ts : Tok} (ok : c.Ok (lev + 3)) (S : St c ρ h) (k : ∀ h' tk' e, Made1 c h h' e 45 → Q (.ref e) (c.sh h' tk')) : wpAny c.M c.B (call (.ref 45) [.str s ts]) Q E (c.sh h tk) :=
  ex_made ok (xc45 _) (find45 _) (ty29 _) S (Nat.le_of_ble_eq_true rfl) (fun h1 e t R hs kk hs1 hn ht he hfr kR => by
    have S1 := S.kp ok (.of_keeps kk hs1)
    exact board_init (k := c.ci _ _) (t := t) (ok.ci _ _) (xc45 _) (S1.cc ok) S1.keep S1.xlt ht he hfr fun h' tk' kx hd => kR h' tk' kx (let ⟨t, d, _, q, _⟩ := hd; ⟨t, d, q⟩)) k
theorem ex_make64 {n : Int} {ts : Tok} (ok : c.Ok (lev + 5)) (h0 : 0 ≤ n) (hlt : n < 2 ^ 32) (S : St c ρ h) (k : ∀ h' tk' e, Made1 c h h' e 64 → Q (.ref e) (c.sh h' tk')) : wpAny c.M c.B (call (.ref 64) [.int n ts]) Q E (c.sh h tk) :=
  ex_made ok (xc64 _) (find64 _) (ty61 _) S (Nat.le_of_ble_eq_true rfl) (fun h1 e t R hs kk hs1 hn ht he hfr kR => by
    have S1 := S.kp ok (.of_keeps kk hs1)
    exact bad_init (k := c.ci _ _) (t := t) (ok.ci _ _) (xc64 _) (S1.cc ok) S1.keep S1.xlt ht he hfr h0 hlt kR) k
end
section
variable {M : Model} {A : Around} {E : Value → Shared → Prop} {h : Heap} {g : Array GenState} {d : Drawn} {tk : Nat} {os : OsState} {env : Env}
variable {nm q : Str} {C N : Addr} {bs bm : List Value} {hdct : Bool} {sn : List Str} {sub : List Value} {ab : Bool} {col : Option Bool} {dd : Option Addr} {k0 k1 k2 k3 k5 : Option Value} {newId : String}
theorem raise_at {s : Shared} {x : Sem Value} {Q : Flow → Shared → Prop} (hh : A.handled = none)
    (hx : wpAny M A x (fun v s₁ => ∃ nm q N bs bm hdct sn sub ab col dd k0 k1 k2 k3 k5 newId C e t od, (Value.ref C :: bm).contains (.type "BaseException") = true ∧ v = .ref e ∧ s₁.heap.get? C = some (excClassObj nm q C N bs bm hdct sn sub ab col dd k0 k1 k2 k3 k5 newId) ∧
      s₁.heap.get? e = some (excO C t od) ∧ E (.ref e) s₁) E s) :
    wpAny M A (raiseStmt env (some x) none) Q E s := by
  unfold raiseStmt
  refine wpAny_bind (wpAny_mono hx (fun v s₁ h₁ => ?_) fun _ _ z => z)
  obtain ⟨nm, q, N, bs, bm, hdct, sn, sub, ab, col, dd, k0, k1, k2, k3, k5, newId, C, e, t, od, hcB, rfl, hC, he, hE⟩ := h₁
  obtain ⟨hp, g, d, tk, os⟩ := s₁
  unfold excO at he
  repeat (first | with_reducible refine wpAny_loadPart_at he ?_ | with_reducible refine wpAny_loadPart_at hC ?_ | (with_reducible refine wpAny_isSubtype_exc hC ?_; rw [hcB]) | wp_step)
  exact wpAny_raiseNew_none hh hE
end
theorem Cx.Ok.cc0 {c : Cx} {lev} (ok : c.Ok lev) : c.B.frames = some (c.env :: c.outer) := by show Option.map (fun x => c.env :: x) c.A.frames = _; rw [ok.stack]; rfl
theorem funFrames_of {base h : Heap} : ∀ {l : List Env}, FrOk h l → (∀ a ∈ frs l, base.get? a = none) → h.FunFrames base l
  | [], _, _ => trivial
  | env :: l, f, n => by
    obtain ⟨a1, L, o, es, ep, b1, c1, d1⟩ := f env (.head _)
    refine ⟨a1, ⟨L, o, b1, n L (List.mem_filterMap.mpr ⟨env, .head _, b1⟩), c1, fun vs q => by rw [d1] at q; cases q⟩, funFrames_of (fun x hx => f x (.tail _ hx)) fun a ha => n a ?_⟩
    obtain ⟨x, hx, q⟩ := List.mem_filterMap.mp ha
    exact List.mem_filterMap.mpr ⟨x, .tail _ hx, q⟩
theorem frs_cons (c : Cx) : frs (c.env :: c.outer) = c.fr := rfl
section
variable {c : Cx} {lev : Nat} {ρ : Loc} {C e : Addr} {h h' : Heap}
theorem lx_made (ok : c.Ok lev) (S : St c ρ h) (m : Made1 c h h' e C) : Lx c h h' C e := by
  obtain ⟨k, hs, hn, t, d, hx⟩ := m
  have S' := S.kp ok k
  have bn : ∀ a ∈ frs (c.env :: c.outer), (hideAll h c.fr).get? a = none := fun a ha => hideAll_none _ (by rw [← frs_cons]; exact ha)
  have st : (hideAll h c.fr).StaysIn h' := fun b o q => by
    refine k.2.1 b o (fun z => ?_) (of_hideAll _ q)
    rw [hideAll_none _ z] at q; cases q
  have hen : (hideAll h c.fr).get? e = none := by
    cases q : (hideAll h c.fr).get? e with
    | none => rfl
    | some o => have := of_hideAll _ q; rw [hn] at this; cases this
  have bb : ∀ b o, b ∉ c.fr → h.get? b = some o → (hideAll h c.fr).get? b = some o := fun b o n q => hideAll_get _ q n
  have sl : ∀ h3, (hideAll h c.fr).StaysIn h3 → (∀ b o, h'.get? b = some o → (∀ vs, o.data ≠ .fields vs) → ∃ sl, h3.get? b = some { o with slots := sl }) → KpS c h h3 := fun h3 x1 x4 => by
    have sl : ∀ a o, h.get? a = some o → ∃ sl, h3.get? a = some { o with slots := sl } := fun a o q => by
      by_cases z : a ∈ c.fr
      · obtain ⟨o', q1, q2⟩ := live_fr S a z
        obtain rfl := Option.some.inj (q.symm.trans q1)
        obtain ⟨sl, q3⟩ := k.2.2 a o q
        obtain ⟨sl', q4⟩ := x4 a _ q3 q2
        exact ⟨sl', q4⟩
      · exact ⟨o.slots, x1 a o (bb a o z q)⟩
    exact ⟨.of_slots sl, fun a o n n' q => x1 a o (bb a o n q), fun a o n n' q => sl a o q⟩
  constructor
  · intro tk Q E kq
    refine wpAny_leaving_firstW (s := c.sh h' tk) (base := hideAll h c.fr) (a0 := .ref t) ok.cc0 (funFrames_of (S'.cc ok) bn) rfl hx st hen rfl rfl rfl fun h3 hL => ?_
    obtain ⟨x1, ⟨_, _, x2⟩, x3, x4⟩ := hL
    exact kq h3 tk (sl h3 x1 x4) ⟨_, _, fun a o n q => bb a o (fun z => n (List.mem_append_left _ z)) q, x1, hen, x2, x3⟩
  · intro tk Q E kq
    unfold noteFrame
    show wpAny c.M c.B (do
      let head ← field (.ref e) 1
      if head != .none then
        if (← field head 3) == rawInt c.L then return
        setField head 3 .none
      setField (.ref e) 1 (← EntryCells.newEntry head (← frameOf c.env) .none (rawInt c.L) .none (← entryPlaceOf c.L (head != .none)))) Q E (c.sh h' tk)
    refine wpAny_bind (wpAny_field hx (x := .none) rfl rfl ?_)
    rw [if_neg (by decide)]
    refine wpAny_entryW (s := c.sh h' tk) (base := hideAll h c.fr) (a0 := .ref t) (L := c.L) ok.cc0 (funFrames_of (S'.cc ok) bn) rfl hx st hen rfl (show 1 < 6 by decide) rfl fun h3 hN => ?_
    obtain ⟨x1, x2, x3, x4⟩ := hN
    exact kq h3 tk (sl h3 x1 x4) ⟨_, _, fun a o n q => bb a o (fun z => n (List.mem_append_left _ z)) q, x1, hen, x2, x3⟩
end
section
variable {c : Cx} {lev : Nat} {ρ : Loc} {C : Addr}
theorem sm_raise {fe e : Expr} {es : List Expr} {as : List AV} {cpos pos : Pos} (ok : c.Ok lev) (x : XC c.gd.w.params C) (h1 : EvJ c ρ fe (.glob (.ref C))) (h2 : EvsJ c ρ (e :: es) as) (hk : keepIn (KK c.gd.w.params) (.ref C) = true)
    (h3 : ∀ h tk vs Q E, St c ρ h → Reps (vw h c.X) vs as → (∀ h' tk' e, Made1 c h h' e C → Q (.ref e) (c.sh h' tk')) → wpAny c.M c.B (call (.ref C) vs) Q E (c.sh h tk))
    (he : eval (.Call fe (e :: es) [] cpos) c.env = (do callWith cpos (← eval fe c.env) [] (backTo cpos (starEach (e :: es) c.env)) (backToKw cpos (keywordEach [] c.env))))
    (hs : starEach (e :: es) c.env = (false, eval e c.env) :: starEach es c.env) (hp : (backTo cpos (starEach es c.env)).any (·.1) = false) : SmJ c ρ (.Raise (some (.Call fe (e :: es) [] cpos)) none pos) (.exc C) := fun h tk Q E S kq => by
  rw [arm_exec_Raise]
  refine wpAny_bind (wpAny_standAt (raise_at (show c.B.handled = none from ok.hand) (wpAny_bind ?_)))
  refine Call_ (h1 h tk _ _ S fun h' tk' v k1 r1 => ?_) he
  obtain rfl := r1.i
  have S1 := S.kp ok k1
  refine callWith_K (S1.gr ok).kx hk (h2 cpos h' tk' _ _ S1 fun h'' tk'' vs k2 rs => ⟨((S1.kp ok k2).gr ok).kx, ?_⟩) hs hp
  have S2 := S1.kp ok k2
  refine h3 _ _ _ _ _ S2 rs fun h4 tk4 e m => wpAny_bind (wpAny_standAt (wpAny_pure ?_))
  obtain ⟨nm, q, N, bs, sub, k0', k1', k2', k3', k5', hl⟩ := x.obj
  have S4 := S2.kp ok m.1
  obtain ⟨t, d, hx⟩ := m.2.2.2
  exact ⟨nm, q, N, bs, exBm, true, [], sub, false, none, none, k0', k1', k2', k3', k5', "ValueError.__new__", C, e, t, some d, by kernel_rfl, rfl, (S4.gr ok).kx _ _ hl, hx,
    kq h4 tk4 e ((k1.trans k2).trans m.1).s ((lx_made ok S2 m).mono (k1.trans k2).s)⟩
theorem keep45 (P : Params) : keepIn (KK P) (.ref 45) = true := by kernel_rfl
theorem keep64 (P : Params) : keepIn (KK P) (.ref 64) = true := by kernel_rfl
theorem glob45 (P : Params) : nsIn (KK P) mainGlobals "BadArgument" = some (some (.ref 45)) := by kernel_rfl
theorem glob64 (P : Params) : nsIn (KK P) mainGlobals "BadInstruction" = some (some (.ref 64)) := by kernel_rfl
theorem sm_raise45 {e : Expr} {s : Str} {np cpos pos : Pos} (ok : c.Ok (lev + 3)) (hk1 : c.env.kindOf "BadArgument" = some .globalImplicit) (h2 : EvJ c ρ e (.str s))
    (he : eval (.Call (.Name "BadArgument" np) [e] [] cpos) c.env = (do callWith cpos (← eval (.Name "BadArgument" np) c.env) [] (backTo cpos (starEach [e] c.env)) (backToKw cpos (keywordEach [] c.env))))
    (hs : starEach [e] c.env = (false, eval e c.env) :: starEach [] c.env) : SmJ c ρ (.Raise (some (.Call (.Name "BadArgument" np) [e] [] cpos)) none pos) (.exc 45) :=
  sm_raise ok (xc45 _) (ev_global ok (glob45 _) ok.kind hk1 (by decide +kernel)) (evs_cons ok h2 evs_nil hs) (keep45 _) (fun h tk vs Q E S rs k => by
    replace rs := rs.i; obtain ⟨_, _, rfl, r, rs⟩ := rs
    obtain rfl := rs.i
    obtain ⟨_, rfl⟩ := r.i
    exact ex_make45 ok S k) he hs rfl
theorem sm_raise64 {e : Expr} {n : Int} {np cpos pos : Pos} (ok : c.Ok (lev + 5)) (hk1 : c.env.kindOf "BadInstruction" = some .globalImplicit) (h2 : EvJ c ρ e (.int n)) (h0 : 0 ≤ n) (hlt : n < 2 ^ 32)
    (he : eval (.Call (.Name "BadInstruction" np) [e] [] cpos) c.env = (do callWith cpos (← eval (.Name "BadInstruction" np) c.env) [] (backTo cpos (starEach [e] c.env)) (backToKw cpos (keywordEach [] c.env))))
    (hs : starEach [e] c.env = (false, eval e c.env) :: starEach [] c.env) : SmJ c ρ (.Raise (some (.Call (.Name "BadInstruction" np) [e] [] cpos)) none pos) (.exc 64) :=
  sm_raise ok (xc64 _) (ev_global ok (glob64 _) ok.kind hk1 (by decide +kernel)) (evs_cons ok h2 evs_nil hs) (keep64 _) (fun h tk vs Q E S rs k => by
    replace rs := rs.i; obtain ⟨_, _, rfl, r, rs⟩ := rs
    obtain rfl := rs.i
    obtain ⟨_, rfl⟩ := r.i
    exact ex_make64 ok h0 hlt S k) he hs rfl
end
noncomputable def ExJ (c : Cx) (ρ : Loc) (e : Expr) (C : Addr) : Prop := ∀ h tk Q E, St c ρ h →
  (∀ h' tk' ex, Kp c.fr h h' → Fly c.fr (c.env :: c.outer) h h' C ex → E (.ref ex) (c.sh h' tk')) → wpAny c.M c.B (eval e c.env) Q E (c.sh h tk)
noncomputable def CxJ (c : Cx) (f : Value) (as : List AV) (C : Addr) : Prop := ∀ ρ h tk Q E vs, St c ρ h → Reps (vw h c.X) vs as →
  (∀ h' tk' ex, Kp c.fr h h' → Fly c.fr (c.env :: c.outer) h h' C ex → E (.ref ex) (c.sh h' tk')) → wpAny c.M c.B (call f vs) Q E (c.sh h tk)
section
variable {c : Cx} {lev : Nat} {ρ : Loc} {C : Addr}
theorem con_cx {f : Value} {as} (ok : c.Ok (lev + 1)) (h : Con c.gd lev f as (.exc C)) : CxJ c f as C := fun ρ h' tk Q E vs S rs k =>
  wpAny_call (h c.cc h' tk vs _ rfl ok.cc (S.cc ok) S.keep S.xlt rs fun h'' tk' ex k1 f1 => k _ _ _ k1 f1)
theorem kp_fly {h h' h'' B : Heap} (S : St c ρ h) (k : Kp c.fr h h') (b : ∀ a o, a ∉ c.fr → h.get? a = some o → B.get? a = some o) (x1 : B.StaysIn h'') (u : h'.UpToSlots h'') : Kp c.fr h h'' := by
  have sl : ∀ a o, h.get? a = some o → ∃ sl, h''.get? a = some { o with slots := sl } := fun a o q => by
    by_cases z : a ∈ c.fr
    · obtain ⟨o', q1, q2⟩ := live_fr S a z
      obtain rfl := Option.some.inj (q.symm.trans q1)
      obtain ⟨sl, q3⟩ := k.2.2 a o q
      obtain ⟨sl', q4⟩ := u a _ q3 q2
      exact ⟨sl', q4⟩
    · exact ⟨o.slots, x1 a o (b a o z q)⟩
  exact ⟨.of_slots sl, fun a o n q => x1 a o (b a o n q), sl⟩
theorem lx_on {h h' : Heap} {e : Addr} (ok : c.Ok lev) (S : St c ρ h) (k : Kp c.fr h h') (f : Fly c.fr (c.env :: c.outer) h h' C e) : Lx c h h' C e := by
  obtain ⟨B, a0, b, fl⟩ := f
  constructor
  · intro tk Q E kq
    refine wpAny_leaves_onW (s := c.sh h' tk) ok.cc0 rfl fl fun h3 x1 x2 => ?_
    exact kq h3 tk (kp_fly S k b x1.1 x2).s ⟨B, a0, fun a o n q => b a o (fun z => n (List.mem_append_left _ z)) q, x1⟩
  · intro tk Q E kq
    refine wpAny_looks_onW (s := c.sh h' tk) ok.cc0 rfl fl fun h3 x1 x2 => ?_
    exact kq h3 tk (kp_fly S k b x1.1 x2).s ⟨B, a0, fun a o n q => b a o (fun z => n (List.mem_append_left _ z)) q, x1⟩
theorem sm_ret_exc {e : Expr} {p} (ok : c.Ok lev) (h1 : ExJ c ρ e C) : SmJ c ρ (.Return (some e) p) (.exc C) := fun h tk Q E S k =>
  wpAny_Return_some (h1 h tk _ _ S fun h' tk' ex k1 f => k h' tk' ex k1.s (lx_on ok S k1 f))
theorem sm_expr_exc {e : Expr} {p} (ok : c.Ok lev) (h1 : ExJ c ρ e C) (hs : swapsWith e none p.line c.env = pure false) : SmJ c ρ (.Expr e p) (.exc C) := fun h tk Q E S k =>
  wpAny_Expr (h1 h tk _ _ S fun h' tk' ex k1 f => k h' tk' ex k1.s (lx_on ok S k1 f)) (not_inter ok.kind) hs
theorem sm_expr {e : Expr} {p} {a : AV} (ok : c.Ok lev) (h1 : EvJ c ρ e a) (ha : match a with | .none => True | .int _ => True | .bool _ => True | .str _ => True | _ => False) (hs : swapsWith e none p.line c.env = pure false) : SmJ c ρ (.Expr e p) (.nxt ρ) := fun h tk Q E S k =>
  wpAny_Expr (h1 h tk _ _ S fun h' tk' v k1 r => by
    have := k h' tk' k1.s (S.kp ok k1)
    cases r <;> first | exact this | exact ha.elim) (not_inter ok.kind) hs
theorem ex_callK {fe : Expr} {f : Value} {e es as p} (ok : c.Ok lev) (h1 : EvJ c ρ fe (.glob f)) (h2 : EvsJ c ρ (e :: es) as) (h3 : CxJ c f as C) (hf : keepIn (KK c.gd.w.params) f = true)
    (he : eval (.Call fe (e :: es) [] p) c.env = (do callWith p (← eval fe c.env) [] (backTo p (starEach (e :: es) c.env)) (backToKw p (keywordEach [] c.env))))
    (hs : starEach (e :: es) c.env = (false, eval e c.env) :: starEach es c.env) (hp : (backTo p (starEach es c.env)).any (·.1) = false) : ExJ c ρ (.Call fe (e :: es) [] p) C := fun h tk Q E S k => by
  refine Call_ (h1 h tk _ _ S fun h' tk' v k1 r1 => ?_) he
  obtain rfl := r1.i
  have S1 := S.kp ok k1
  refine callWith_K (S1.gr ok).kx hf (h2 p h' tk' _ _ S1 fun h'' tk'' vs k2 rs => ⟨((S1.kp ok k2).gr ok).kx, h3 ρ _ _ _ _ _ (S1.kp ok k2) rs fun h3 tk3 ex k3 f3 => ?_⟩) hs hp
  have k12 := k1.trans k2
  exact k _ _ _ (k12.trans k3) (f3.mono k12.2.1)
theorem caught {h h' : Heap} {tk : Nat} {ex : Addr} {x : Str} {np hp : Pos} {b₀ : Stmt} {suite : List Stmt} {rest : List ExceptHandler} {Q : Flow → Shared → Prop} {E : Value → Shared → Prop} (ok : c.Ok lev) (xc : XC c.gd.w.params C) (S : St c ρ h) (k : Kp c.fr h h') (f : Fly c.fr (c.env :: c.outer) h h' C ex)
    (hv : nsIn (KK c.gd.w.params) mainGlobals x = some (some (.ref C))) (hx : c.env.kindOf x = some .globalImplicit) (hd : (x == ("__debug__" : Str)) = false)
    (kq : ∀ h'' tk' (QQ : Flow → Shared → Prop) (EE : Value → Shared → Prop), Kp c.fr h h'' → (∀ (f : Flow) s, Q f s → QQ f s) → wpAny c.M (c.B.mark (some (.ref ex))) (execs (b₀ :: suite) c.env) QQ EE (c.sh h'' tk')) :
    wpAny c.M c.B (noteFrame (.ref ex) c.env) (fun _ s₂ => wpAny c.M c.B (setFlight (.ref ex) none) (fun _ s₃ => wpAny c.M c.B (handleBy (.ref ex) c.env (.ExceptHandler (some (.Name x np)) none (b₀ :: suite) hp :: rest)) Q E s₃) E s₂) E (c.sh h' tk) := by
  obtain ⟨B, a0, b, fl⟩ := f
  refine wpAny_looks_onW (s := c.sh h' tk) ok.cc0 rfl fl fun h₄ hheld₄ u₄ => ?_
  refine wpAny_landsW hheld₄ fun h₅ hheld u₅ => ?_
  have u5 := u₄.trans u₅
  obtain ⟨ob, hob, hobc⟩ := hheld.there
  have k5 := kp_fly S k b hheld.1 u5
  have S5 := S.kp ok k5
  have G5 := S5.gr ok
  obtain ⟨nm, q, N, bs, sub, k0', k1', k2', k3', k5', hl⟩ := xc.obj
  refine wpAny_handleBy_cons (codeAny_handlers_test (Name_function_global (env := c.env) ok.kind hx (loadGlobal_global (env := c.env) G5.g (mg_of G5.kx G5.g hv) ?_) hd)) (by intro q; cases q)
  refine wpAny_excMatches_sub_self (h := h₅) (G5.kx _ _ hl) hob hobc (by kernel_rfl) (codeAny_handlers_suite ?_)
  refine lands_againW hheld fun h₆ hfl₆ u₆ => ?_
  exact kq h₆ _ _ _ (kp_fly S k b hfl₆.1 (u5.trans u₆)) fun f s q => q
theorem sm_tryret {e : Expr} {a : AV} {p1 hp pos : Pos} {hs : ExceptHandler} (h1 : EvJ c ρ e a) : SmJ c ρ (.Try [.Return (some e) p1] [hs] [] [] pos) (.ret a) := fun h tk Q E S k =>
  wpAny_Try_except (wpAny_execs_cons (wpAny_Return_some (h1 h tk _ _ S fun h' tk' v k1 r => k h' tk' v k1.s r (fun _ z => nomatch z))))
theorem sm_tryretX {e ce : Expr} {a : AV} {x : Str} {p1 p2 np hp pos : Pos} (ok : c.Ok lev) (h1 : ExJ c ρ e C) (xc : XC c.gd.w.params C)
    (hv : nsIn (KK c.gd.w.params) mainGlobals x = some (some (.ref C))) (hx : c.env.kindOf x = some .globalImplicit) (hd : (x == ("__debug__" : Str)) = false)
    (hc : ∀ A Q E h tk, (∀ tk' v, (∀ V, Rep V v a) → Q v (c.sh h tk')) → wpAny c.M A (eval ce c.env) Q E (c.sh h tk)) :
    SmJ c ρ (.Try [.Return (some e) p1] [.ExceptHandler (some (.Name x np)) none [.Return (some ce) p2] hp] [] [] pos) (.ret a) := fun h tk Q E S k =>
  wpAny_Try_except (wpAny_execs_cons (wpAny_Return_some (h1 h tk _ _ S fun h' tk' ex k1 f =>
    caught ok xc S k1 f hv hx hd fun h'' tk'' QQ EE k2 kR => wpAny_execs_cons (wpAny_Return_some (hc _ _ _ _ _ fun tk3 v r => kR _ _ (k h'' tk3 v k2.s (r _) (fun _ z => nomatch z)))))))
theorem sm_tryexpr {e : Expr} {n : Int} {p1 pos : Pos} {hs : ExceptHandler} (ok : c.Ok lev) (h1 : EvJ c ρ e (.int n)) (hsw : swapsWith e none p1.line c.env = pure false) : SmJ c ρ (.Try [.Expr e p1] [hs] [] [] pos) (.nxt ρ) := fun h tk Q E S k =>
  wpAny_Try_except (wpAny_execs_cons (wpAny_Expr (h1 h tk _ _ S fun h' tk' v k1 r => by
    obtain ⟨_, rfl⟩ := r.i
    exact wpAny_execs_nil (wpAny_execs_nil (k h' tk' k1.s (S.kp ok k1)))) (not_inter ok.kind) hsw))
theorem sm_tryexprX {e ce : Expr} {a : AV} {x : Str} {p1 p2 np hp pos : Pos} (ok : c.Ok lev) (h1 : ExJ c ρ e C) (hsw : swapsWith e none p1.line c.env = pure false) (xc : XC c.gd.w.params C)
    (hv : nsIn (KK c.gd.w.params) mainGlobals x = some (some (.ref C))) (hx : c.env.kindOf x = some .globalImplicit) (hd : (x == ("__debug__" : Str)) = false)
    (hc : ∀ A Q E h tk, (∀ tk' v, (∀ V, Rep V v a) → Q v (c.sh h tk')) → wpAny c.M A (eval ce c.env) Q E (c.sh h tk)) :
    SmJ c ρ (.Try [.Expr e p1] [.ExceptHandler (some (.Name x np)) none [.Return (some ce) p2] hp] [] [] pos) (.ret a) := fun h tk Q E S k =>
  wpAny_Try_except (wpAny_execs_cons (wpAny_Expr (h1 h tk _ _ S fun h' tk' ex k1 f =>
    caught ok xc S k1 f hv hx hd fun h'' tk'' QQ EE k2 kR => wpAny_execs_cons (wpAny_Return_some (hc _ _ _ _ _ fun tk3 v r => kR _ _ (k h'' tk3 v k2.s (r _) (fun _ z => nomatch z))))) (not_inter ok.kind) hsw))
end
noncomputable def StoJ (c : Cx) (x : Str) (t : Value → Sem Unit) : Prop := c.env.kindOf x = some .local ∧ ∀ v Q E s, wpAny c.M c.B (storeName c.env x v) Q E s → wpAny c.M c.B (t v) Q E s
inductive StosJ (c : Cx) : List Str → List (Value → Sem Unit) → Prop
  | nil : StosJ c [] []
  | cons {x t xs ts} : StoJ c x t → StosJ c xs ts → StosJ c (x :: xs) (t :: ts)
noncomputable def bindAll : List Str → List AV → Loc → Loc
  | x :: xs, a :: as, ρ => bindAll xs as ((x, a) :: ρ)
  | _, _, ρ => ρ
section
variable {c : Cx} {lev : Nat} {ρ : Loc}
theorem sto_name {x : Str} {p : Pos} (h : c.env.kindOf x = some .local) : StoJ c x (assign (.Name x p) c.env) := ⟨h, fun _ _ _ _ q => assign_Name q⟩
theorem sto_bind {x : Str} (h : c.env.kindOf x = some .local) : StoJ c x (bindName c.env x) := ⟨h, fun _ _ _ _ q => wpAny_bindName q⟩
theorem stos_do (ok : c.Ok lev) : ∀ {xs ts vs as} {ρ : Loc} {h : Heap} {tk : Nat} {Q : Unit → Shared → Prop} {E}, StosJ c xs ts → Reps (vw h c.X) vs as → notOwns as = true → xs.length = as.length → St c ρ h →
    (∀ h' tk', KpS c h h' → St c (bindAll xs as ρ) h' → Q () (c.sh h' tk')) → wpAny c.M c.B (assignInOrder ts vs) Q E (c.sh h tk)
  | _, _, _, _, ρ, h, tk, Q, E, .nil, .nil, _, _, S, k => assignInOrder_nil (k h tk .refl S)
  | _, _, _, _, ρ, h, tk, Q, E, .cons s ss, .cons r rs, hno, hl, S, k => by
    have hno' : _ := hno
    unfold notOwns at hno'
    rw [Bool.and_eq_true] at hno'
    refine assignInOrder_cons (s.2 _ _ _ _ (store_name ok S r (by simpa using hno'.1) s.1 fun h' tk' k1 S1 => ?_))
    exact stos_do ok ss (rs.mono (k1.vle ok)) hno'.2 (Nat.succ.inj hl) S1 fun h'' tk'' k2 S2 => k h'' tk'' (k1.trans k2) S2
theorem Kp.extBut {fr : List Addr} {h h' : Heap} (e : Heap.ExtBut h.objs.size h h') : Kp fr h h' := .of fun a o q => e a o (Nat.ne_of_lt (Heap.lt_size q)) q
theorem isTup_of {V : View} {h : Heap} {X : List Addr} {v : Value} {l : List AV} (r : Rep (vw h X) v (.tup l)) : ∃ a vs, v = .ref a ∧ IsTup h a (List.toArray vs) ∧ Reps (vw h X) vs l := by
  cases r with
  | tup e c d rs => exact ⟨_, _, rfl, ⟨_, vw_ge e, c, _, d⟩, rs⟩
theorem assign_tup {elts : List Expr} {n : Nat} {tpos : Pos} {xs : List Str} {v : Value} {as : List AV} {h : Heap} {tk : Nat} {Q : Unit → Shared → Prop} {E} (ok : c.Ok lev) (hx : StosJ c xs ((assignEach elts c.env).map (·.2))) (hstar : (assignEach elts c.env).findIdx? (·.1) = none)
    (hno : notOwns as = true) (hl : xs.length = as.length) (S : St c ρ h) (r : Rep (vw h c.X) v (.tup as)) (k : ∀ h' tk', KpS c h h' → St c (bindAll xs as ρ) h' → Q () (c.sh h' tk')) : wpAny c.M c.B (assign (.Tuple elts n tpos) c.env v) Q E (c.sh h tk) := by
  obtain ⟨a, vs, rfl, it, rs⟩ := isTup_of (V := fun _ => none) r
  have len : ∀ {xs ts}, StosJ c xs ts → xs.length = ts.length := fun q => by
    induction q with
    | nil => rfl
    | cons _ _ ih => exact congrArg (· + 1) ih
  have hn : (assignEach elts c.env).length = (List.toArray vs).size := by
    rw [List.size_toArray, rs.len, ← hl, len hx, List.length_map]
  refine assign_Tuple_tuple (show c.B.handled = none from ok.hand) it hn hstar fun h' he => ?_
  have k1 : Kp c.fr h h' := .extBut he
  exact stos_do ok hx (rs.mono (k1.vle ok.frX)) hno hl (S.kp ok k1) fun h'' tk'' k2 S2 => k h'' tk'' (k1.s.trans k2) S2
theorem sm_tup {elts : List Expr} {n : Nat} {tpos pos : Pos} {xs : List Str} {as : List AV} {value : Expr} {ρ' : Loc} (ok : c.Ok lev) (h1 : EvJ c ρ value (.tup as)) (hx : StosJ c xs ((assignEach elts c.env).map (·.2))) (hstar : (assignEach elts c.env).findIdx? (·.1) = none)
    (hs : swapsWithSole [.Tuple elts n tpos] value pos.line c.env = pure false) (hw : swappedStores [.Tuple elts n tpos] value c.env = pure none) (hno : notOwns as = true) (hl : xs.length = as.length) (hρ : bindAll xs as ρ = ρ') : SmJ c ρ (.Assign [.Tuple elts n tpos] value pos) (.nxt ρ') := fun h tk Q E S kq => by
  subst hρ
  refine Assign_Tuple (h1 h tk _ _ S fun h' tk' v k1 r => ?_) hs hw
  exact assign_tup ok hx hstar hno hl (S.kp ok k1) r fun h'' tk'' k2 S2 => kq h'' tk'' (k1.s.trans k2) S2
theorem sm_tupR {elts : List Expr} {n : Nat} {tpos pos : Pos} {xs : List Str} {as : List AV} {value : Expr} {ρ' : Loc} (ok : c.Ok lev) (h1 : EvJ c ρ value (.tup as)) (hk : ∀ x ∈ xs, c.env.kindOf x = some .local)
    (hs : swapsWithSole [.Tuple elts n tpos] value pos.line c.env = pure false) (hw : swappedStores [.Tuple elts n tpos] value c.env = pure (some xs)) (hno : notOwns as.reverse = true) (hl : xs.length = as.length) (hρ : bindAll xs.reverse as.reverse ρ = ρ') : SmJ c ρ (.Assign [.Tuple elts n tpos] value pos) (.nxt ρ') := fun h tk Q E S kq => by
  subst hρ
  refine Assign_Tuple_swapped (names := xs) (h1 h tk _ _ S fun h' tk' v k1 r => ?_) hs hw
  obtain ⟨a, vs, rfl, it, rs⟩ := isTup_of (V := fun _ => none) r
  have S1 := S.kp ok k1
  have hn : xs.length = (List.toArray vs).size := by rw [List.size_toArray, rs.len]; exact hl
  rw [hn]
  refine unpackItems_tuple (show c.B.handled = none from ok.hand) it fun h'' he => ?_
  have k2 : Kp c.fr h' h'' := .extBut he
  have rev : ∀ {vs as} {V : View}, Reps V vs as → Reps V vs.reverse as.reverse := fun {vs as V} q => by
    have app : ∀ {vs as vs' as'}, Reps V vs as → Reps V vs' as' → Reps V (vs ++ vs') (as ++ as') := fun {vs as vs' as'} => by
      intro q q'
      induction vs generalizing as with
      | nil => cases q; exact q'
      | cons v vs ih => cases q with | cons r rs => exact .cons r (ih rs)
    induction vs generalizing as with
    | nil => cases q; exact .nil
    | cons v vs ih =>
      cases q with
      | cons r rs =>
        rw [List.reverse_cons, List.reverse_cons]
        exact app (ih rs) (.cons r .nil)
  have hst : ∀ {l : List Str}, (∀ x ∈ l, c.env.kindOf x = some .local) → StosJ c l (l.map fun n => bindName c.env n) := fun {l} q => by
    induction l with
    | nil => exact .nil
    | cons x l ih => exact .cons (sto_bind (q x (.head _))) (ih fun y hy => q y (.tail _ hy))
  refine stos_do ok (hst fun x hx => hk x (List.mem_reverse.mp hx)) (rev (rs.mono (k2.vle ok.frX))) hno (by rw [List.length_reverse, List.length_reverse]; exact hl) (S1.kp ok k2) fun h3 tk3 k3 S3 => ?_
  exact kq h3 tk3 ((k1.s.trans k2.s).trans k3) S3
end
theorem op_is_none {c : Cx} : OpJ c (compareOp .Is) .none .none (.bool true) := fun ρ h tk Q E v u S r1 r2 k => by
  obtain rfl := r1.i; obtain rfl := r2.i; exact wpAny_is_self rfl (k _ _ _ .refl .bool)
theorem op_is_srV {c : Cx} {r : SR} : OpJ c (compareOp .Is) (.glob (srV r)) .none (.bool false) := fun ρ h tk Q E v u S r1 r2 k => by
  obtain rfl := r1.i; obtain rfl := r2.i; exact wpAny_is_other rfl (by intro q; cases q) (k _ _ _ .refl .bool)
theorem op_is_inst {c : Cx} {nm rd rs1 rs2 imm csr} : OpJ c (compareOp .Is) (.inst nm rd rs1 rs2 imm csr) .none (.bool false) := fun ρ h tk Q E v u S r1 r2 k => by
  obtain rfl := r2.i; obtain ⟨_, rfl⟩ := r1.i; exact wpAny_is_other rfl (by intro q; cases q) (k _ _ _ .refl .bool)
theorem op_isn_none {c : Cx} : OpJ c (compareOp .IsNot) .none .none (.bool false) := fun ρ h tk Q E v u S r1 r2 k => by
  obtain rfl := r1.i; obtain rfl := r2.i; exact wpAny_isNot_self rfl (k _ _ _ .refl .bool)
theorem op_isn_inst {c : Cx} {nm rd rs1 rs2 imm csr} : OpJ c (compareOp .IsNot) (.inst nm rd rs1 rs2 imm csr) .none (.bool true) := fun ρ h tk Q E v u S r1 r2 k => by
  obtain rfl := r2.i; obtain ⟨_, rfl⟩ := r1.i; exact wpAny_isNot_other rfl (by intro q; cases q) (k _ _ _ .refl .bool)
theorem findS_mem {w : Int} {r : SR} (h : findS w = some r) : r ∈ SH := by
  have sub : ∀ {p : SR → Bool} {q : SR → Bool} {x : SR}, (SH.filter p).find? q = some x → x ∈ SH := fun e => (List.mem_filter.mp (List.mem_of_find?_eq_some e)).1
  unfold findS at h
  split at h
  · cases h; exact sub (by assumption)
  · split at h
    · cases h; exact sub (by assumption)
    · split at h
      · split at h
        · cases h
        · cases h; exact sub (by assumption)
      · exact sub h
structure Ins where
  nm : Str
  rd : Int
  rs1 : Int
  rs2 : Int
  imm : Int
  csr : Int
noncomputable abbrev Ins.av (i : Ins) : AV := .inst i.nm i.rd i.rs1 i.rs2 i.imm i.csr
noncomputable def fRd (w : Int) : Int := band (shr w 7) 31
noncomputable def fR1 (w : Int) : Int := band (shr w 15) 31
noncomputable def fR2 (w : Int) : Int := band (shr w 20) 31
noncomputable def fHi (w : Int) : Int := shr w 20
noncomputable def immI (w : Int) : Int := if band (fHi w) 2048 != 0 then fHi w - 4096 else fHi w
noncomputable def sLow (w : Int) : Int := bor (shr w 25 * 2 ^ 5) (fRd w)
noncomputable def immS (w : Int) : Int := if shr w 31 != 0 then sLow w - 4096 else sLow w
noncomputable def decR (r : SR) (w : Int) : Ins :=
  if r.kind == sO "I" then ⟨r.name, fRd w, fR1 w, 0, immI w, 0⟩ else
  if r.kind == sO "R" then ⟨r.name, fRd w, fR1 w, fR2 w, 0, 0⟩ else
  if r.kind == sO "B" then ⟨r.name, 0, fR1 w, fR2 w, gbF w, 0⟩ else
  if r.kind == sO "S" then ⟨r.name, 0, fR1 w, fR2 w, immS w, 0⟩ else
  if r.kind == sO "U" then ⟨r.name, fRd w, 0, 0, shr w 12, 0⟩ else
  if r.kind == sO "J" then ⟨r.name, fRd w, 0, 0, gjF w, 0⟩ else
  if r.kind == sO "shift" then ⟨r.name, fRd w, fR1 w, 0, fR2 w, 0⟩ else
  if r.kind == sO "fence" then ⟨r.name, fRd w, fR1 w, 0, fHi w, 0⟩ else
  if r.kind == sO "CSR" then ⟨r.name, fRd w, fR1 w, 0, 0, fHi w⟩ else
  if r.kind == sO "CSRI" then ⟨r.name, fRd w, 0, 0, fR1 w, fHi w⟩ else
  if r.kind == sO "flush" then ⟨r.name, 0, fR1 w, fR2 w, 0, 0⟩ else ⟨r.name, 0, 0, 0, 0, 0⟩
section
local macro_rules | `(tactic| walk_at "op") => `(tactic| first
  | with_reducible exact op_is_none
  | with_reducible exact op_is_srV
  | with_reducible exact op_is_inst
  | with_reducible exact op_isn_none
  | with_reducible exact op_isn_inst)
theorem dec_out {w : Int} (h0 : 0 ≤ w) (h1 : w < 2 ^ 32) : ((decide (w < 0)) || ((shr w 32 != 0) || false)) = false := by
  have : shr w 32 = 0 := by unfold shr; rw [Int.fdiv_eq_ediv_of_nonneg _ (by decide)]; omega
  rw [this, decide_eq_false (by omega)]; rfl
theorem dec_test {c : Cx} {lev} (ok : c.Ok lev) (hs : c.scope = fnScope (astAt 33)) {w : Int} (h0 : 0 ≤ w) (h1 : w < 2 ^ 32) {out : Out}
    (h : ∀ s ss, fnBody (astAt 33) = s :: ss → BlJ c [(sO "word", .int w)] ss out) : BlJ c [(sO "word", .int w)] (fnBody (astAt 33)) out := by
  refine' bl_if ok (b := false) ?t (fun h => nomatch h) (fun h => nomatch h) (fun _ => h _ _ rfl)
  case t =>
    refine' ts_eq (ts_boolop (ta_or ok ?t5 (fun _ => ta_or ok ?t6 (fun _ => ta_or_nil)))) ?q5
    case t5 => walk_at "ts"
    case t6 => walk_at "ts"
    case q5 => exact dec_out h0 h1
end
local macro_rules | `(tactic| walk_at "op") => `(tactic| first
  | with_reducible exact op_is_none
  | with_reducible exact op_is_srV
  | with_reducible exact op_is_inst
  | with_reducible exact op_isn_none
  | with_reducible exact op_isn_inst)
local macro_rules | `(tactic| walk_at "ev") => `(tactic| first
  | ((with_reducible refine' ev_attrS (by assumption) ?l ?s ?e); (case l => walk_at "ev"); (case s => with_reducible assumption); (case e => rfl)))
theorem gl_fs (P : Params) : nsIn (KK P) mainGlobals (Str.ofString "find_shape") = some (some (.ref 1073)) := by kernel_rfl
theorem gl_in (P : Params) : nsIn (KK P) mainGlobals (Str.ofString "Instruction") = some (some (.ref 91)) := by kernel_rfl
theorem fn_fs (P : Params) : isFnK (KK P) 1073 = true := by kernel_rfl
theorem kp_in (P : Params) : keepIn (KK P) (.ref 91) = true := by kernel_rfl
section
theorem dec_bodyX {c : Cx} {lev} (ok : c.Ok (lev + 5)) (hs : c.scope = fnScope (astAt 33)) {w : Int} (h0 : 0 ≤ w) (h1 : w < 2 ^ 32) (hn : findS w = none) :
    BlJ c [(sO "word", .int w)] (fnBody (astAt 33)) (.exc 64) := by
  refine dec_test ok hs h0 h1 fun s ss e => ?_
  cases e
  have hX : CaJ c (.ref 1073) [.int w] .none := by
    have := con_ca (lev := lev + 4) (c := c) ok (con_fs c.gd (lev + 3) w)
    rw [hn] at this; exact this
  refine' bl_cons (sm_assign ok (ev_call ok (ev_global ok (gl_fs _) ok.kind ?a1 rfl) ?a2 hX (fn_fs _) rfl (.inr ⟨_, _, rfl, rfl⟩)) ?b rfl rfl) ?d
  case a1 => exact kd hs (by kernel_rfl)
  case a2 => walk_at "evs"
  case b => exact kd hs (by kernel_rfl)
  case d =>
  refine' bl_if ok (b := true) ?t (fun _ => rfl) (fun _ => ?x) (fun h => nomatch h)
  case t => walk_at "ts"
  case x =>
  refine' bl_exc (sm_raise64 (n := w) ok ?k1 ?k2 h0 h1 rfl rfl)
  case k1 => exact kd hs (by kernel_rfl)
  case k2 => walk_at "ev"
end
theorem gl_gb (P : Params) : nsIn (KK P) mainGlobals (Str.ofString "gathered_branch") = some (some (.ref 1059)) := by kernel_rfl
theorem gl_gj (P : Params) : nsIn (KK P) mainGlobals (Str.ofString "gathered_jump") = some (some (.ref 1066)) := by kernel_rfl
theorem fn_gb (P : Params) : isFnK (KK P) 1059 = true := by kernel_rfl
theorem fn_gj (P : Params) : isFnK (KK P) 1066 = true := by kernel_rfl
theorem shr25 {w : Int} (h0 : 0 ≤ w) (h1 : w < 2 ^ 32) : (shr w 25).natAbs < 2 ^ 64 := by
  unfold shr; rw [Int.fdiv_eq_ediv_of_nonneg _ (by decide)]; omega
section
theorem dec_body {c : Cx} {lev} (ok : c.Ok (lev + 3)) (hs : c.scope = fnScope (astAt 33)) {w : Int} (h0 : 0 ≤ w) (h1 : w < 2 ^ 32) {r : SR} (hr : findS w = some r) :
    BlJ c [(sO "word", .int w)] (fnBody (astAt 33)) (.ret (decR r w).av) := by
  have hm := findS_mem hr
  have hsp := sh_split (List.all_eq_true.mp (SH_ok c.gd.w.params) r hm)
  have hnm := hsp.1
  have hkd := hsp.2.1
  clear hsp
  refine dec_test ok hs h0 h1 fun s ss e => ?_
  cases e
  have hX : CaJ c (.ref 1073) [.int w] (.glob (srV r)) := by
    have := con_ca (lev := lev + 2) (c := c) ok (con_fs c.gd (lev + 1) w)
    rw [hr] at this; exact this
  refine' bl_cons (sm_assign ok (ev_call ok (ev_global ok (gl_fs _) ok.kind ?a1 rfl) ?a2 hX (fn_fs _) rfl (.inr ⟨_, _, rfl, rfl⟩)) ?b rfl rfl) ?d
  case a1 => exact kd hs (by kernel_rfl)
  case a2 => walk_at "evs"
  case b => exact kd hs (by kernel_rfl)
  case d =>
  refine' bl_if ok (b := false) ?t (fun h => nomatch h) (fun h => nomatch h) (fun _ => ?y)
  case t => walk_at "ts"
  case y =>
  refine' bl_cons (sm_tup (as := [.str r.kind, .int (fRd w), .int (fR1 w), .int (fR2 w)]) (xs := [sO "kind", sO "rd", sO "rs1", sO "rs2"])
    (ρ' := [(sO "rs2", .int (fR2 w)), (sO "rs1", .int (fR1 w)), (sO "rd", .int (fRd w)), (sO "kind", .str r.kind), (sO "shape", .glob (srV r)), (sO "word", .int w)]) ok ?v ?st rfl rfl rfl rfl rfl rfl) ?d2
  case v => walk_at "evq"
  case st => exact .cons (sto_name (kd hs (by kernel_rfl))) (.cons (sto_name (kd hs (by kernel_rfl))) (.cons (sto_name (kd hs (by kernel_rfl))) (.cons (sto_name (kd hs (by kernel_rfl))) .nil)))
  case d2 =>
  refine' bl_cons (sm_assign (a := .int (fHi w)) ok ?v3 ?b3 rfl rfl) ?d3
  case v3 => walk_at "evq"
  case b3 => exact kd hs (by kernel_rfl)
  case d3 =>
  refine' bl_if ok (b := r.kind == sO "I") ?tI (fun _ => rfl) ?xI ?yI
  case tI => walk_at "tsq"
  case xI =>
    intro hk
    rw [show decR r w = ⟨r.name, fRd w, fR1 w, 0, immI w, 0⟩ by unfold decR; rw [if_pos hk]]
    refine' bl_ret (sm_return (ev_callK ok (ev_global ok (gl_in _) ok.kind ?g rfl) ?ar (ca_inst5 ok) (kp_in _) rfl rfl rfl))
    case g => exact kd hs (by kernel_rfl)
    case ar =>
      refine' evs_cons ok ?e1 (evs_cons ok ?e2 (evs_cons ok ?e3 (evs_cons ok ?e4 (evs_cons ok ?e5 evs_nil rfl) rfl) rfl) rfl) rfl
      case e1 => walk_at "ev"
      case e2 => walk_at "ev"
      case e3 => walk_at "ev"
      case e4 => walk_at "ev"
      case e5 =>
        refine' ev_if ok (b := band (fHi w) 2048 != 0) ?i1 ?i2 ?i3
        case i1 => walk_at "tsq"
        case i2 =>
          intro h
          rw [show immI w = fHi w - 4096 by unfold immI; rw [if_pos h]]
          walk_at "ev"
        case i3 =>
          intro h
          rw [show immI w = fHi w by unfold immI; rw [h]; rfl]
          walk_at "ev"
  case yI =>
  intro nI
  refine' bl_if ok (b := r.kind == sO "R") ?tR (fun _ => rfl) ?xR ?yR
  case tR => walk_at "tsq"
  case xR =>
    intro hk
    rw [show decR r w = ⟨r.name, fRd w, fR1 w, fR2 w, 0, 0⟩ by unfold decR; rw [if_neg (Bool.eq_false_iff.mp nI), if_pos hk]]
    refine' bl_ret (sm_return (ev_callK ok (ev_global ok (gl_in _) ok.kind ?g rfl) ?ar (ca_inst4 ok) (kp_in _) rfl rfl rfl))
    case g => exact kd hs (by kernel_rfl)
    case ar =>
      refine' evs_cons ok ?e1 (evs_cons ok ?e2 (evs_cons ok ?e3 (evs_cons ok ?e4 evs_nil rfl) rfl) rfl) rfl
      case e1 => walk_at "evq"
      case e2 => walk_at "evq"
      case e3 => walk_at "evq"
      case e4 => walk_at "evq"
  case yR =>
  intro nR
  refine' bl_if ok (b := r.kind == sO "B") ?tB (fun _ => rfl) ?xB ?yB
  case tB => walk_at "tsq"
  case xB =>
    intro hk
    rw [show decR r w = ⟨r.name, 0, fR1 w, fR2 w, gbF w, 0⟩ by unfold decR; rw [if_neg (Bool.eq_false_iff.mp nI), if_neg (Bool.eq_false_iff.mp nR), if_pos hk]]
    refine' bl_ret (sm_return (ev_callK ok (ev_global ok (gl_in _) ok.kind ?g rfl) ?ar (ca_inst5 ok) (kp_in _) rfl rfl rfl))
    case g => exact kd hs (by kernel_rfl)
    case ar =>
      refine' evs_cons ok ?e1 (evs_cons ok ?e2 (evs_cons ok ?e3 (evs_cons ok ?e4 (evs_cons ok ?e5 evs_nil rfl) rfl) rfl) rfl) rfl
      case e1 => walk_at "ev"
      case e2 => walk_at "ev"
      case e3 => walk_at "ev"
      case e4 => walk_at "ev"
      case e5 =>
        refine' ev_call ok (ev_global ok (gl_gb _) ok.kind ?i1 rfl) ?i2 (con_ca ok (con_gb _ _ w)) (fn_gb _) rfl (.inr ⟨_, _, rfl, rfl⟩)
        case i1 => exact kd hs (by kernel_rfl)
        case i2 => walk_at "evs"
  case yB =>
  intro nB
  refine' bl_if ok (b := r.kind == sO "S") ?tS (fun _ => rfl) ?xS ?yS
  case tS => walk_at "tsq"
  case xS =>
    intro hk
    rw [show decR r w = ⟨r.name, 0, fR1 w, fR2 w, immS w, 0⟩ by unfold decR; rw [if_neg (Bool.eq_false_iff.mp nI), if_neg (Bool.eq_false_iff.mp nR), if_neg (Bool.eq_false_iff.mp nB), if_pos hk]]
    refine' bl_cons (sm_assign (a := .int (sLow w)) ok ?v4 ?b4 rfl rfl) ?d4
    case v4 =>
      refine' ev_eq (ev_bin ok (ev_bin ok ?l1 ?l2 (op_shl (a := shr w 25) (n := 5) (by decide) (by decide) ?l3)) ?l4 op_or) ?l5
      case l1 => walk_at "evq"
      case l2 => walk_at "ev"
      case l3 => exact shr25 h0 h1
      case l4 => walk_at "ev"
      case l5 => rfl
    case b4 => exact kd hs (by kernel_rfl)
    case d4 =>
    refine' bl_ret (sm_return (ev_callK ok (ev_global ok (gl_in _) ok.kind ?g rfl) ?ar (ca_inst5 ok) (kp_in _) rfl rfl rfl))
    case g => exact kd hs (by kernel_rfl)
    case ar =>
      refine' evs_cons ok ?e1 (evs_cons ok ?e2 (evs_cons ok ?e3 (evs_cons ok ?e4 (evs_cons ok ?e5 evs_nil rfl) rfl) rfl) rfl) rfl
      case e1 => walk_at "ev"
      case e2 => walk_at "ev"
      case e3 => walk_at "ev"
      case e4 => walk_at "ev"
      case e5 =>
        refine' ev_if ok (b := shr w 31 != 0) ?i1 ?i2 ?i3
        case i1 => walk_at "tsq"
        case i2 =>
          intro h
          rw [show immS w = sLow w - 4096 by unfold immS; rw [if_pos h]]
          walk_at "ev"
        case i3 =>
          intro h
          rw [show immS w = sLow w by unfold immS; rw [h]; rfl]
          walk_at "ev"
  case yS =>
  intro nS
  refine' bl_if ok (b := r.kind == sO "U") ?tU (fun _ => rfl) ?xU ?yU
  case tU => walk_at "tsq"
  case xU =>
    intro hk
    rw [show decR r w = ⟨r.name, fRd w, 0, 0, shr w 12, 0⟩ by unfold decR; rw [if_neg (Bool.eq_false_iff.mp nI), if_neg (Bool.eq_false_iff.mp nR), if_neg (Bool.eq_false_iff.mp nB), if_neg (Bool.eq_false_iff.mp nS), if_pos hk]]
    refine' bl_ret (sm_return (ev_callK ok (ev_global ok (gl_in _) ok.kind ?g rfl) ?ar (ca_inst5 ok) (kp_in _) rfl rfl rfl))
    case g => exact kd hs (by kernel_rfl)
    case ar =>
      refine' evs_cons ok ?e1 (evs_cons ok ?e2 (evs_cons ok ?e3 (evs_cons ok ?e4 (evs_cons ok ?e5 evs_nil rfl) rfl) rfl) rfl) rfl
      case e1 => walk_at "evq"
      case e2 => walk_at "evq"
      case e3 => walk_at "evq"
      case e4 => walk_at "evq"
      case e5 => walk_at "evq"
  case yU =>
  intro nU
  refine' bl_if ok (b := r.kind == sO "J") ?tJ (fun _ => rfl) ?xJ ?yJ
  case tJ => walk_at "tsq"
  case xJ =>
    intro hk
    rw [show decR r w = ⟨r.name, fRd w, 0, 0, gjF w, 0⟩ by unfold decR; rw [if_neg (Bool.eq_false_iff.mp nI), if_neg (Bool.eq_false_iff.mp nR), if_neg (Bool.eq_false_iff.mp nB), if_neg (Bool.eq_false_iff.mp nS), if_neg (Bool.eq_false_iff.mp nU), if_pos hk]]
    refine' bl_ret (sm_return (ev_callK ok (ev_global ok (gl_in _) ok.kind ?g rfl) ?ar (ca_inst5 ok) (kp_in _) rfl rfl rfl))
    case g => exact kd hs (by kernel_rfl)
    case ar =>
      refine' evs_cons ok ?e1 (evs_cons ok ?e2 (evs_cons ok ?e3 (evs_cons ok ?e4 (evs_cons ok ?e5 evs_nil rfl) rfl) rfl) rfl) rfl
      case e1 => walk_at "ev"
      case e2 => walk_at "ev"
      case e3 => walk_at "ev"
      case e4 => walk_at "ev"
      case e5 =>
        refine' ev_call ok (ev_global ok (gl_gj _) ok.kind ?i1 rfl) ?i2 (con_ca ok (con_gj _ _ w)) (fn_gj _) rfl (.inr ⟨_, _, rfl, rfl⟩)
        case i1 => exact kd hs (by kernel_rfl)
        case i2 => walk_at "evs"
  case yJ =>
  intro nJ
  refine' bl_if ok (b := r.kind == sO "shift") ?tshift (fun _ => rfl) ?xshift ?yshift
  case tshift => walk_at "tsq"
  case xshift =>
    intro hk
    rw [show decR r w = ⟨r.name, fRd w, fR1 w, 0, fR2 w, 0⟩ by unfold decR; rw [if_neg (Bool.eq_false_iff.mp nI), if_neg (Bool.eq_false_iff.mp nR), if_neg (Bool.eq_false_iff.mp nB), if_neg (Bool.eq_false_iff.mp nS), if_neg (Bool.eq_false_iff.mp nU), if_neg (Bool.eq_false_iff.mp nJ), if_pos hk]]
    refine' bl_ret (sm_return (ev_callK ok (ev_global ok (gl_in _) ok.kind ?g rfl) ?ar (ca_inst5 ok) (kp_in _) rfl rfl rfl))
    case g => exact kd hs (by kernel_rfl)
    case ar =>
      refine' evs_cons ok ?e1 (evs_cons ok ?e2 (evs_cons ok ?e3 (evs_cons ok ?e4 (evs_cons ok ?e5 evs_nil rfl) rfl) rfl) rfl) rfl
      case e1 => walk_at "evq"
      case e2 => walk_at "evq"
      case e3 => walk_at "evq"
      case e4 => walk_at "evq"
      case e5 => walk_at "evq"
  case yshift =>
  intro nshift
  refine' bl_if ok (b := r.kind == sO "fence") ?tfence (fun _ => rfl) ?xfence ?yfence
  case tfence => walk_at "tsq"
  case xfence =>
    intro hk
    rw [show decR r w = ⟨r.name, fRd w, fR1 w, 0, fHi w, 0⟩ by unfold decR; rw [if_neg (Bool.eq_false_iff.mp nI), if_neg (Bool.eq_false_iff.mp nR), if_neg (Bool.eq_false_iff.mp nB), if_neg (Bool.eq_false_iff.mp nS), if_neg (Bool.eq_false_iff.mp nU), if_neg (Bool.eq_false_iff.mp nJ), if_neg (Bool.eq_false_iff.mp nshift), if_pos hk]]
    refine' bl_ret (sm_return (ev_callK ok (ev_global ok (gl_in _) ok.kind ?g rfl) ?ar (ca_inst5 ok) (kp_in _) rfl rfl rfl))
    case g => exact kd hs (by kernel_rfl)
    case ar =>
      refine' evs_cons ok ?e1 (evs_cons ok ?e2 (evs_cons ok ?e3 (evs_cons ok ?e4 (evs_cons ok ?e5 evs_nil rfl) rfl) rfl) rfl) rfl
      case e1 => walk_at "evq"
      case e2 => walk_at "evq"
      case e3 => walk_at "evq"
      case e4 => walk_at "evq"
      case e5 => walk_at "evq"
  case yfence =>
  intro nfence
  refine' bl_if ok (b := r.kind == sO "CSR") ?tCSR (fun _ => rfl) ?xCSR ?yCSR
  case tCSR => walk_at "tsq"
  case xCSR =>
    intro hk
    rw [show decR r w = ⟨r.name, fRd w, fR1 w, 0, 0, fHi w⟩ by unfold decR; rw [if_neg (Bool.eq_false_iff.mp nI), if_neg (Bool.eq_false_iff.mp nR), if_neg (Bool.eq_false_iff.mp nB), if_neg (Bool.eq_false_iff.mp nS), if_neg (Bool.eq_false_iff.mp nU), if_neg (Bool.eq_false_iff.mp nJ), if_neg (Bool.eq_false_iff.mp nshift), if_neg (Bool.eq_false_iff.mp nfence), if_pos hk]]
    refine' bl_ret (sm_return (ev_callK ok (ev_global ok (gl_in _) ok.kind ?g rfl) ?ar (ca_inst6 ok) (kp_in _) rfl rfl rfl))
    case g => exact kd hs (by kernel_rfl)
    case ar =>
      refine' evs_cons ok ?e1 (evs_cons ok ?e2 (evs_cons ok ?e3 (evs_cons ok ?e4 (evs_cons ok ?e5 (evs_cons ok ?e6 evs_nil rfl) rfl) rfl) rfl) rfl) rfl
      case e1 => walk_at "evq"
      case e2 => walk_at "evq"
      case e3 => walk_at "evq"
      case e4 => walk_at "evq"
      case e5 => walk_at "evq"
      case e6 => walk_at "evq"
  case yCSR =>
  intro nCSR
  refine' bl_if ok (b := r.kind == sO "CSRI") ?tCSRI (fun _ => rfl) ?xCSRI ?yCSRI
  case tCSRI => walk_at "tsq"
  case xCSRI =>
    intro hk
    rw [show decR r w = ⟨r.name, fRd w, 0, 0, fR1 w, fHi w⟩ by unfold decR; rw [if_neg (Bool.eq_false_iff.mp nI), if_neg (Bool.eq_false_iff.mp nR), if_neg (Bool.eq_false_iff.mp nB), if_neg (Bool.eq_false_iff.mp nS), if_neg (Bool.eq_false_iff.mp nU), if_neg (Bool.eq_false_iff.mp nJ), if_neg (Bool.eq_false_iff.mp nshift), if_neg (Bool.eq_false_iff.mp nfence), if_neg (Bool.eq_false_iff.mp nCSR), if_pos hk]]
    refine' bl_ret (sm_return (ev_callK ok (ev_global ok (gl_in _) ok.kind ?g rfl) ?ar (ca_inst6 ok) (kp_in _) rfl rfl rfl))
    case g => exact kd hs (by kernel_rfl)
    case ar =>
      refine' evs_cons ok ?e1 (evs_cons ok ?e2 (evs_cons ok ?e3 (evs_cons ok ?e4 (evs_cons ok ?e5 (evs_cons ok ?e6 evs_nil rfl) rfl) rfl) rfl) rfl) rfl
      case e1 => walk_at "evq"
      case e2 => walk_at "evq"
      case e3 => walk_at "evq"
      case e4 => walk_at "evq"
      case e5 => walk_at "evq"
      case e6 => walk_at "evq"
  case yCSRI =>
  intro nCSRI
  refine' bl_ret (sm_return (ev_if ok (b := r.kind == sO "flush") ?tf ?xf ?yf))
  case tf => walk_at "tsq"
  case xf =>
    intro hk
    rw [show decR r w = ⟨r.name, 0, fR1 w, fR2 w, 0, 0⟩ by unfold decR; rw [if_neg (Bool.eq_false_iff.mp nI), if_neg (Bool.eq_false_iff.mp nR), if_neg (Bool.eq_false_iff.mp nB), if_neg (Bool.eq_false_iff.mp nS), if_neg (Bool.eq_false_iff.mp nU), if_neg (Bool.eq_false_iff.mp nJ), if_neg (Bool.eq_false_iff.mp nshift), if_neg (Bool.eq_false_iff.mp nfence), if_neg (Bool.eq_false_iff.mp nCSR), if_neg (Bool.eq_false_iff.mp nCSRI), if_pos hk]]
    refine' ev_callK ok (ev_global ok (gl_in _) ok.kind ?g rfl) ?ar (ca_inst4 ok) (kp_in _) rfl rfl rfl
    case g => exact kd hs (by kernel_rfl)
    case ar => walk_at "evs"
  case yf =>
    intro hk
    rw [show decR r w = ⟨r.name, 0, 0, 0, 0, 0⟩ by unfold decR; rw [if_neg (Bool.eq_false_iff.mp nI), if_neg (Bool.eq_false_iff.mp nR), if_neg (Bool.eq_false_iff.mp nB), if_neg (Bool.eq_false_iff.mp nS), if_neg (Bool.eq_false_iff.mp nU), if_neg (Bool.eq_false_iff.mp nJ), if_neg (Bool.eq_false_iff.mp nshift), if_neg (Bool.eq_false_iff.mp nfence), if_neg (Bool.eq_false_iff.mp nCSR), if_neg (Bool.eq_false_iff.mp nCSRI), if_neg (Bool.eq_false_iff.mp hk)]]
    refine' ev_callK ok (ev_global ok (gl_in _) ok.kind ?g rfl) ?ar (ca_inst1 ok) (kp_in _) rfl rfl rfl
    case g => exact kd hs (by kernel_rfl)
    case ar => walk_at "evs"
end
theorem con_dec (gd : Gd) (lev : Nat) {w : Int} (h0 : 0 ≤ w) (h1 : w < 2 ^ 32) {r : SR} (hr : findS w = some r) : Con gd (lev + 4) (.ref 1080) [.int w] (.ok (decR r w).av) :=
  con_fn (as := [.int w]) (out := .ret (decR r w).av) [sO "word"] (show (KK gd.w.params).lookup 1080 = some (o1080 gd.w.params) by kernel_rfl) (by kernel_rfl)
    (fun s vs hl _ => by obtain ⟨a0, rfl⟩ := len1 hl; exact .of_eq (by kernel_rfl)) (by decide +kernel)
    (fun c hg ok hs hn => dec_body ok hs h0 h1 hr) (by kernel_rfl) (by kernel_rfl) (by kernel_rfl) (by decide +kernel)
theorem con_decX (gd : Gd) (lev : Nat) {w : Int} (h0 : 0 ≤ w) (h1 : w < 2 ^ 32) (hr : findS w = none) : Con gd (lev + 6) (.ref 1080) [.int w] (.exc 64) :=
  con_fn (as := [.int w]) (out := .exc 64) [sO "word"] (show (KK gd.w.params).lookup 1080 = some (o1080 gd.w.params) by kernel_rfl) (by kernel_rfl)
    (fun s vs hl _ => by obtain ⟨a0, rfl⟩ := len1 hl; exact .of_eq (by kernel_rfl)) (by decide +kernel)
    (fun c hg ok hs hn => dec_bodyX ok hs h0 h1 hr) (by kernel_rfl) (by kernel_rfl) (by kernel_rfl) (by decide +kernel)
noncomputable def Cx.hide (c : Cx) (l : Addr) : Cx := { c with X := l :: c.X }
theorem Cx.Ok.hide {c : Cx} {lev l} (ok : c.Ok lev) (hl : c.gd.H.get? l = none) : (c.hide l).Ok lev :=
  ⟨ok.gr, ok.stack, ok.depth, ok.units, ok.kind, ok.hand, fun a ha => .tail _ (ok.frX a ha), fun a o q z => by
    rcases List.mem_cons.mp z with rfl | z
    · exact absurd (hl.symm.trans q) nofun
    · exact ok.hX a o q z, fun a ha => .tail _ (ok.ownX a ha), ok.ownF⟩
theorem vle_new {X : List Addr} {h h' : Heap} {l : Addr} (k : ∀ a o, a ∉ X → h.get? a = some o → h'.get? a = some o) (hn : h.get? l = none) : VLe (vw h X) (vw h' (l :: X)) := fun a o e => by
  unfold vw at e ⊢
  split at e
  · cases e
  · rename_i q
    rw [if_neg (fun z => (List.mem_cons.mp z).elim (fun z => by rw [z, hn] at e; cases e) q)]
    exact k a o q e
theorem vle_tail {X : List Addr} {h : Heap} {l : Addr} : VLe (vw h (l :: X)) (vw h X) := fun a o e => by
  unfold vw at e ⊢
  split at e
  · cases e
  · rename_i q
    rw [if_neg (show ¬ a ∈ X from fun z => q (List.mem_cons_of_mem _ z))]
    exact e
theorem St.hide {c : Cx} {lev ρ h h' l} (ok : c.Ok lev) (S : St c ρ h) (k : Kp c.fr h h') (hn : h.get? l = none) (hl : ∃ o, h'.get? l = some o) : St (c.hide l) ρ h' := by
  have S' := S.kp ok k
  obtain ⟨m, n1, r1⟩ := S.ns
  refine ⟨⟨m, ns_kp n1 k, fun x a q => ?_⟩, S'.keep, S'.frs, fun a ha => ?_, S'.oth, S'.own⟩
  · obtain ⟨v, q1, q2⟩ := r1 x a q
    exact ⟨v, q1, q2.mono (vle_new (fun a o n e => k.2.1 a o (fun z => n (ok.frX a z)) e) hn)⟩
  · rcases List.mem_cons.mp ha with rfl | ha
    · exact hl
    · exact S'.xlt a ha
theorem St.unhide {c : Cx} {ρ h l} (S : St (c.hide l) ρ h) : St c ρ h := by
  obtain ⟨m, n1, r1⟩ := S.ns
  exact ⟨⟨m, n1, fun x a q => let ⟨v, q1, q2⟩ := r1 x a q; ⟨v, q1, q2.mono vle_tail⟩⟩, S.keep, S.frs, fun a ha => S.xlt a (.tail _ ha), S.oth, S.own⟩
theorem St.but {c : Cx} {lev ρ h h' l} (ok : c.Ok lev) (S : St c ρ h) (k : ∀ a o, a ≠ l → h.get? a = some o → h'.get? a = some o) (hl : ∃ o, h'.get? l = some o) (hX : l ∈ c.X) (hf : l ∉ c.fr) (ho : l ∉ c.own) (hH : c.gd.H.get? l = none) : St c ρ h' := by
  obtain ⟨m, n1, r1⟩ := S.ns
  refine ⟨⟨m, ?_, fun x a q => ?_⟩, fun a o q => k a o (fun z => by rw [z, hH] at q; cases q) (S.keep a o q), fun env hv => ?_, fun a ha => ?_, fun a ha => ?_, fun x a oc q => ?_⟩
  · obtain ⟨o, es, ep, q1, q2, q3⟩ := n1
    exact ⟨o, es, ep, k _ _ (fun z => hf (z ▸ .head _)) q1, q2, q3⟩
  · obtain ⟨v, q1, q2⟩ := r1 x a q
    refine ⟨v, q1, q2.mono fun a o e => ?_⟩
    unfold vw at e ⊢
    split at e
    · cases e
    · rename_i q
      rw [if_neg q]
      exact k a o (fun z => q (z ▸ hX)) e
  · obtain ⟨a1, L, o, es, ep, b1, c1, d1⟩ := S.frs env hv
    exact ⟨a1, L, o, es, ep, b1, k _ _ (fun z => hf (z ▸ List.mem_cons_of_mem _ (List.mem_filterMap.mpr ⟨env, hv, b1⟩))) c1, d1⟩
  · by_cases z : a = l
    · exact z ▸ hl
    · obtain ⟨o, q⟩ := S.xlt a ha
      exact ⟨o, k a o z q⟩
  · obtain ⟨o, q, n⟩ := S.oth a ha
    exact ⟨o, k a o (fun z => ho (z ▸ ha)) q, n⟩
  · obtain ⟨q1, q2⟩ := S.own x a oc q
    exact ⟨q1, q2.keep fun o q => k a o (fun z => ho (z ▸ q1)) q⟩
theorem St.unhideBut {c : Cx} {lev ρ h h' l} (ok : c.Ok lev) (S : St (c.hide l) ρ h) (k : ∀ a o, a ≠ l → h.get? a = some o → h'.get? a = some o) (hf : l ∉ c.fr) (hX : l ∉ c.X) (hH : c.gd.H.get? l = none) : St c ρ h' := by
  have ho : l ∉ c.own := fun z => hX (ok.ownX _ z)
  obtain ⟨m, n1, r1⟩ := S.ns
  refine ⟨⟨m, ?_, fun x a q => ?_⟩, fun a o q => k a o (fun z => by rw [z, hH] at q; cases q) (S.keep a o q), fun env hv => ?_, fun a ha => ?_, fun a ha => ?_, fun x a oc q => ?_⟩
  · obtain ⟨o, es, ep, q1, q2, q3⟩ := n1
    exact ⟨o, es, ep, k _ _ (fun z => hf (z ▸ .head _)) q1, q2, q3⟩
  · obtain ⟨v, q1, q2⟩ := r1 x a q
    refine ⟨v, q1, q2.mono fun a o e => ?_⟩
    unfold vw at e ⊢
    split at e
    · cases e
    · rename_i q
      rw [if_neg (show ¬ a ∈ c.X from fun z => q (List.mem_cons_of_mem _ z))]
      exact k a o (fun z => q (z ▸ .head _)) e
  · obtain ⟨a1, L, o, es, ep, b1, c1, d1⟩ := S.frs env hv
    exact ⟨a1, L, o, es, ep, b1, k _ _ (fun z => hf (z ▸ List.mem_cons_of_mem _ (List.mem_filterMap.mpr ⟨env, hv, b1⟩))) c1, d1⟩
  · obtain ⟨o, q⟩ := S.xlt a (.tail _ ha)
    exact ⟨o, k a o (fun z => hX (z ▸ ha)) q⟩
  · obtain ⟨o, q, n⟩ := S.oth a ha
    exact ⟨o, k a o (fun z => ho (z ▸ ha)) q, n⟩
  · obtain ⟨q1, q2⟩ := S.own x a oc q
    exact ⟨q1, q2.keep fun o q => k a o (fun z => ho (z ▸ q1)) q⟩
theorem St.there {c : Cx} {ρ h} (S : St c ρ h) : ∀ a, a ∈ c.fr ∨ a ∈ c.own → There h a := fun a ha => by
  rcases ha with ha | ha
  · obtain ⟨o, q, n⟩ := live_fr S a ha
    exact ⟨o, q, n⟩
  · exact S.oth a ha
structure ItJ (c : Cx) (target : Expr) (it : Addr) (n : Nat) (item : Nat → AV) (I : Nat → Heap → Prop) : Prop where
  keep : ∀ i h h', I i h → KpS c h h' → I i h'
  step : ∀ i h tk (Q E : Value → Shared → Prop), i < n → I i h → (∀ a ∈ c.X, ∃ o, h.get? a = some o) → (∀ (h' : Heap) tk' v, (∀ b o, b ≠ it → h.get? b = some o → h'.get? b = some o) → (∃ o, h'.get? it = some o) → I (i + 1) h' → Rep (vw h' c.X) v (item i) → Q v (c.sh h' tk')) →
    wpAny c.M c.B (pyNext (.ref it)) (fun r s => ∃ v, r = some v ∧ wpAny c.M c.B (letOwnedTupleGo target (.ref it) v) (fun _ s' => Q v s') E s) E (c.sh h tk)
  done : ∀ h tk (Q : Shared → Prop) (E : Value → Shared → Prop), I n h → (∀ (h' : Heap) tk', (∀ b o, b ≠ it → h.get? b = some o → h'.get? b = some o) → Q (c.sh h' tk')) → wpAny c.M c.B (pyNext (.ref it)) (fun r s => r = none ∧ Q s) E (c.sh h tk)
section
variable {M : Model} {A : Around} {E : Value → Shared → Prop} {s : Shared}
theorem flight_here {base : Heap} {l : List Env} {e L : Addr} {cls a0 : Value} {Q : Unit → Shared → Prop} (hh : Heap.HeldW base l e cls a0 L s.heap)
    (hQ : ∀ h', Heap.HeldW base l e cls a0 L h' → s.heap.UpToSlots h' → Q () { s with heap := h' }) : wpAny M A (setFlight (.ref e) (some L)) Q E s := by
  obtain ⟨f1, f2, f3, oe, vs, T, oT, ts, he, hcls, hd, h1, hnT, hTe, hT, hdT, h3⟩ := hh
  have hsz3 : 3 < ts.size := (Array.getElem?_eq_some_iff.mp h3).1
  have other : ∀ b, b ≠ T → (s.heap.update T (Obj.mapFields (·.setIfInBounds 3 (rawInt L)))).get? b = s.heap.get? b := fun b hb => Heap.get?_update_other _ _ (Ne.symm hb)
  have noRecord : ∀ b o, s.heap.get? b = some o → (∀ vs, o.data ≠ .fields vs) → b ≠ T := fun b o hb hnf q => by
    rw [q, hT] at hb; injection hb with hb; subst hb; exact hnf ts hdT
  unfold setFlight
  refine wpAny_bind (wpAny_field he hd h1 ?_)
  rw [if_pos (show (Value.ref T != Value.none) = true from by simp)]
  refine wpAny_setField hT hdT hsz3 (hQ _ ⟨fun b o hbo => (other b fun q => by rw [q, hnT] at hbo; cases hbo).trans (f1 b o hbo), f2,
    f3.of_keeps fun b o hb hnf => ⟨o, (other b (noRecord b o hb hnf)).trans hb, rfl⟩, ?_⟩ fun b o hb hnf => ⟨o.slots, (other b (noRecord b o hb hnf)).trans hb⟩)
  exact ⟨oe, vs, T, _, _, (other e (Ne.symm hTe)).trans he, hcls, hd, h1, hnT, hTe, Heap.get?_update_self _ hT (Obj.isFreed_of_fields (Obj.data_mapFields hdT _)), Obj.data_mapFields hdT _, by
    show (ts.setIfInBounds 3 (rawInt L))[3]? = some (rawInt L)
    simp [hsz3]⟩
end
section
variable {c : Cx} {lev : Nat} {ρ : Loc} {C e : Addr} {h h' : Heap}
theorem kps_slots {h'' : Heap} {B : Heap} (S : St c ρ h) (k : KpS c h h') (b : ∀ a o, a ∉ c.fr ++ c.own → h.get? a = some o → B.get? a = some o) (x : B.StaysIn h'') (u : h'.UpToSlots h'') : KpS c h h'' := by
  have th : ∀ a, There h' a → There h'' a := fun a ⟨o, q, n⟩ => let ⟨_, q'⟩ := u a o q n; ⟨_, q', n⟩
  have both : ∀ a o, a ∉ c.fr → a ∉ c.own → h.get? a = some o → h''.get? a = some o := fun a o n n' q => x a o (b a o (fun z => (List.mem_append.mp z).elim n n') q)
  refine ⟨fun a z => th a (k.1 a z), both, fun a o n n' q => ?_⟩
  by_cases z : a ∈ c.fr
  · obtain ⟨o', q1, q2⟩ := live_fr S a z
    obtain rfl := Option.some.inj (q.symm.trans q1)
    obtain ⟨sl, q3⟩ := k.2.2 a o n n' q
    obtain ⟨sl', q4⟩ := u a _ q3 q2
    exact ⟨sl', q4⟩
  · exact ⟨o.slots, both a o z n' q⟩
theorem lx_held (S : St c ρ h) (k : KpS c h h') (f : HeldS c h h' C e) : Lx c h h' C e := by
  obtain ⟨B, a0, b, hl⟩ := f
  constructor
  · intro tk Q E kq
    unfold leaving
    refine wpAny_bind (wpAny_noteFrame_againW rfl hl.2.2.2 ?_)
    refine wpAny_landsW (s := c.sh h' tk) hl fun h3 x u => ?_
    exact kq h3 tk (kps_slots S k b x.1 u) ⟨B, a0, b, x.1, x.2.1, x.2.2.1.2.2, x.2.2.2⟩
  · intro tk Q E kq
    exact wpAny_noteFrame_againW rfl hl.2.2.2 (kq h' tk k ⟨B, a0, b, hl⟩)
theorem lx_notedBy {tk : Nat} {E : Value → Shared → Prop} (S : St c ρ h) (x : Lx c h h' C e) (kq : ∀ h3 tk', KpS c h h3 → Lx c h h3 C e → E (.ref e) (c.sh h3 tk')) :
    notedBy c.M c.B c.env (cameBackBy c.M c.B c.env E) (.ref e) (c.sh h' tk) := by
  refine x.2 tk _ _ fun h2 tk2 k2 f2 => ?_
  obtain ⟨B, a0, b, hl⟩ := f2
  obtain ⟨oe, vs, T, oT, ts, he, hcls, hd, h1, r⟩ := id hl.2.2.2
  unfold cameBackBy
  refine wpAny_bind (wpAny_field (s := c.sh h2 tk2) he hd h1 ?_)
  rw [if_neg (by simp)]
  refine wpAny_mono (flight_here (s := c.sh h2 tk2) (L := c.L) hl (Q := fun _ s'' => E (.ref e) s'') (E := E) fun h3 hl3 u => ?_) (fun _ _ z => z) (fun _ _ z => z)
  have k3 := kps_slots S k2 b hl3.1 u
  exact kq h3 tk2 k3 (lx_held S k3 ⟨B, a0, b, hl3⟩)
end
noncomputable def AsJ (c : Cx) (t : Expr) (a : AV) (ρ ρ' : Loc) : Prop := ∀ h tk v Q E, St c ρ h → Rep (vw h c.X) v a → (∀ h' tk', KpS c h h' → St c ρ' h' → Q () (c.sh h' tk')) → wpAny c.M c.B (assign t c.env v) Q E (c.sh h tk)
structure Like (c c1 : Cx) (lev : Nat) : Prop where
  ok : c1.Ok lev
  scope : c1.scope = c.scope
  gd : c1.gd = c.gd
  own : c1.own = c.own
section
variable {c : Cx} {lev : Nat} {ρ : Loc}
theorem as_name {x : Str} {p : Pos} {a : AV} (ok : c.Ok lev) (hk : c.env.kindOf x = some .local) (hno : a.isOwn = false) : AsJ c (.Name x p) a ρ ((x, a) :: ρ) := fun h tk v Q E S r k =>
  assign_Name (store_name ok S r hno hk k)
theorem as_tup {elts : List Expr} {n : Nat} {tpos : Pos} {xs : List Str} {as : List AV} {ρ' : Loc} (ok : c.Ok lev) (hx : StosJ c xs ((assignEach elts c.env).map (·.2))) (hstar : (assignEach elts c.env).findIdx? (·.1) = none) (hno : notOwns as = true) (hl : xs.length = as.length) (hρ : bindAll xs as ρ = ρ') :
    AsJ c (.Tuple elts n tpos) (.tup as) ρ ρ' := fun h tk v Q E S r k => by
  subst hρ
  exact assign_tup ok hx hstar hno hl S r k
noncomputable def IeJ (c : Cx) (ρ : Loc) (target iter : Expr) (n : Nat) (item : Nat → AV) : Prop := ∀ h tk Q E, St c ρ h →
  (∀ h' tk' it I, Kp c.fr h h' → h.get? it = none → (∃ o, h'.get? it = some o) → ItJ (c.hide it) target it n item I → I 0 h' → Q (.ref it) (c.sh h' tk')) →
  wpAny c.M c.B (eval iter c.env) (fun x s₁ => wpAny c.M c.B (pyIter x) Q E s₁) E (c.sh h tk)
theorem KpS.but {h h' h'' : Heap} {l : Addr} (k : KpS c h h') (hn : h.get? l = none) (kb : ∀ b o, b ≠ l → h'.get? b = some o → h''.get? b = some o) : KpS c h h'' := by
  have ne : ∀ a o, h.get? a = some o → a ≠ l := fun a o q z => by rw [z, hn] at q; cases q
  refine ⟨fun a ⟨o, q, n⟩ => ?_, fun a o n n' q => kb a o (ne a o q) (k.2.1 a o n n' q), fun a o n n' q => ?_⟩
  · obtain ⟨o', q', n'⟩ := k.1 a ⟨o, q, n⟩
    exact ⟨o', kb a o' (ne a o q) q', n'⟩
  · obtain ⟨sl, q'⟩ := k.2.2 a o n n' q
    exact ⟨sl, kb a _ (ne a o q) q'⟩
theorem OutK.hide {h : Heap} {l : Addr} {Q E} : ∀ {out : Out}, out.ends = true → OutK c h Q E out → OutK (c.hide l) h Q E out
  | .ret a σ, _, k => fun h' tk' v kk r hσ => k h' tk' v kk (r.mono vle_tail) hσ
  | .exc C, _, k => fun h' tk' e kk x => k h' tk' e kk x
theorem next_some {M : Model} {A : Around} {it : Value} {P : Option Value → Shared → Prop} {E : Value → Shared → Prop} {s : Shared} (h : wpAny M A (pyNext it) (fun r s => ∃ v, r = some v ∧ P (some v) s) E s) : wpAny M A (pyNext it) P E s :=
  wpAny_mono h (fun r s hr => by obtain ⟨v, rfl, q⟩ := hr; exact q) fun _ _ z => z
theorem next_none {M : Model} {A : Around} {it : Value} {P : Option Value → Shared → Prop} {E : Value → Shared → Prop} {s : Shared} (h : wpAny M A (pyNext it) (fun r s => r = none ∧ P none s) E s) : wpAny M A (pyNext it) P E s :=
  wpAny_mono h (fun r s hr => by obtain ⟨rfl, q⟩ := hr; exact q) fun _ _ z => z
theorem sm_for {target iter : Expr} {body : List Stmt} {pos : Pos} {n m : Nat} {item : Nat → AV} {J K : Nat → Loc} {out : Out} (ok : c.Ok lev) (hf : ∀ x, foldedSetIterable iter c.env x = pure x) (h1 : IeJ c ρ target iter n item) (hj : J 0 = ρ)
    (ht : ∀ c1, Like c c1 lev → ∀ i, i < n → i ≤ m → AsJ c1 target (item i) (J i) (K i)) (hb : ∀ c1, Like c c1 lev → ∀ i, i < m → BlJ c1 (K i) body (.nxt (J (i + 1)))) (hm : m ≤ n)
    (he : m < n → out.ends = true ∧ ∀ c1, Like c c1 lev → BlJ c1 (K m) body out) (hz : m = n → out = .nxt (J n)) : SmJ c ρ (.For target iter body [] pos) out := fun h tk Q E S kq => by
  refine wpAny_For (h1 h tk _ _ S fun h1 tk1 it I k1 hn hl T I0 => ?_) hf
  have hH : c.gd.H.get? it = none := by
    cases q : c.gd.H.get? it with
    | none => rfl
    | some o => rw [S.keep it o q] at hn; cases hn
  have hfr : it ∉ c.fr := fun z => by obtain ⟨o, q, _⟩ := S.there it (.inl z); rw [hn] at q; cases q
  have how : it ∉ c.own := fun z => by obtain ⟨o, q, _⟩ := S.there it (.inr z); rw [hn] at q; cases q
  have L : Like c (c.hide it) lev := ⟨ok.hide hH, rfl, rfl, rfl⟩
  have S1 : St (c.hide it) (J 0) h1 := hj ▸ S.hide ok k1 hn hl
  refine codeAny_forLoop_any (fun k s' => ∃ i h' tk', s' = c.sh h' tk' ∧ KpS c h h' ∧ St (c.hide it) (J i) h' ∧ I i h' ∧ i ≤ m ∧ k = n + 1 - i) ?_ (n + 1) ⟨0, h1, tk1, rfl, k1.s, S1, I0, Nat.zero_le _, rfl⟩
  rintro k s' ⟨i, h', tk', rfl, kk, Si, Ii, him, rfl⟩
  by_cases hin : i < n
  · refine next_some (T.step i h' tk' _ _ hin Ii Si.xlt fun h2 tk2 v kb hl2 I2 r => ?_)
    have S2 : St (c.hide it) (J i) h2 := Si.but L.ok kb hl2 (.head _) hfr how hH
    have kk2 : KpS c h h2 := kk.but hn kb
    refine ht _ L i hin him h2 tk2 v _ _ S2 r fun h3 tk3 k3 S3 => ?_
    have kk3 : KpS c h h3 := kk2.trans k3
    by_cases hi : i < m
    · refine hb _ L i hi h3 tk3 _ _ S3 fun h4 tk4 k4 S4 => ?_
      exact ⟨n + 1 - (i + 1), by omega, i + 1, h4, tk4, rfl, kk3.trans k4, S4, T.keep _ _ _ (T.keep _ _ _ I2 k3) k4, hi, rfl⟩
    · obtain rfl : i = m := Nat.le_antisymm him (Nat.not_lt.mp hi)
      obtain ⟨e1, e2⟩ := he hin
      refine e2 _ L h3 tk3 _ _ S3 ?_
      cases out with
      | nxt ρ' => cases e1
      | ret a σ => exact fun h4 tk4 v k4 r4 hσ => kq h4 tk4 v (kk3.trans k4) (r4.mono vle_tail) hσ
      | exc C => exact fun h4 tk4 e k4 x4 => lx_notedBy S (Lx.mono (c := c) kk3 x4) fun h5 tk5 k5 x5 => kq h5 tk5 e k5 x5
  · obtain rfl : i = n := Nat.le_antisymm (Nat.le_trans him hm) (Nat.not_lt.mp hin)
    obtain rfl : m = i := Nat.le_antisymm hm him
    obtain rfl := hz rfl
    refine next_none (T.done h' tk' _ _ Ii fun h2 tk2 kb => ?_)
    exact wpAny_execs_nil (kq h2 tk2 (kk.but hn kb) (Si.unhideBut ok kb hfr (fun z => by obtain ⟨o, q⟩ := S.xlt _ z; rw [hn] at q; cases q) hH))
end
section
variable {c : Cx} {lev : Nat} {ρ : Loc}
theorem op_mod {a b : Int} (hb : b ≠ 0) : OpJ c (binaryOp .Mod) (.int a) (.int b) (.int (a.fmod b)) := fun ρ h tk Q E v u S r1 r2 k => by
  obtain ⟨_, rfl⟩ := r1.i; obtain ⟨_, rfl⟩ := r2.i; exact PyProof.Rows.mod_int hb (k _ _ _ .refl .int)
theorem op_fdiv {a b : Int} (hb : b ≠ 0) (hp : Builtin.divisionGoesByPylong a b = false) : OpJ c (binaryOp .FloorDiv) (.int a) (.int b) (.int (a.fdiv b)) := fun ρ h tk Q E v u S r1 r2 k => by
  obtain ⟨_, rfl⟩ := r1.i; obtain ⟨_, rfl⟩ := r2.i; exact floordiv_int hb (k _ _ _ .refl .int) (.inl hp)
theorem op_mul {a b : Int} (hm : IntMulOk a b) : OpJ c (binaryOp .Mult) (.int a) (.int b) (.int (a * b)) := fun ρ h tk Q E v u S r1 r2 k => by
  obtain ⟨_, rfl⟩ := r1.i; obtain ⟨_, rfl⟩ := r2.i; exact mul_int (k _ _ _ .refl .int) hm
theorem op_pow {a n : Int} (hn : 0 ≤ n) (hz : (Builtin.Int.intBits a : Int) * n ≤ 2 ^ 27) : OpJ c (binaryOp .Pow) (.int a) (.int n) (.int (a ^ n.toNat)) := fun ρ h tk Q E v u S r1 r2 k => by
  obtain ⟨_, rfl⟩ := r1.i; obtain ⟨_, rfl⟩ := r2.i; exact pow_int hn hz (k _ _ _ .refl .int)
theorem op_nei {a b : Int} : OpJ c (compareOp .NotEq) (.int a) (.int b) (.bool (a != b)) := fun ρ h tk Q E v u S r1 r2 k => by
  obtain ⟨_, rfl⟩ := r1.i; obtain ⟨_, rfl⟩ := r2.i; exact PyProof.Rows.ne_int (k _ _ _ .refl .bool)
theorem op_gt {a b : Int} : OpJ c (compareOp .Gt) (.int a) (.int b) (.bool (decide (b < a))) := fun ρ h tk Q E v u S r1 r2 k => by
  obtain ⟨_, rfl⟩ := r1.i; obtain ⟨_, rfl⟩ := r2.i; exact PyProof.Rows.gt_int (k _ _ _ .refl .bool)
theorem op_ge {a b : Int} : OpJ c (compareOp .GtE) (.int a) (.int b) (.bool (decide (b ≤ a))) := fun ρ h tk Q E v u S r1 r2 k => by
  obtain ⟨_, rfl⟩ := r1.i; obtain ⟨_, rfl⟩ := r2.i; exact PyProof.Rows.ge_int (k _ _ _ .refl .bool)
theorem op_le {a b : Int} : OpJ c (compareOp .LtE) (.int a) (.int b) (.bool (decide (a ≤ b))) := fun ρ h tk Q E v u S r1 r2 k => by
  obtain ⟨_, rfl⟩ := r1.i; obtain ⟨_, rfl⟩ := r2.i; exact PyProof.Rows.le_int (k _ _ _ .refl .bool)
theorem ne_str' {prog : Program} {w : World} {A : Around} {E : Value → Shared → Prop} {s : Shared} {a b : Str} {t u : Tok} {Q : Value → Shared → Prop} (h : Q (.bool (!(a == b))) s) : wpAny (model prog w) A (compareOp .NotEq (.str a t) (.str b u)) Q E s := by
  first | exact ne_str h | (have := @ne_str; exact ne_str (by simpa [bne] using h))
theorem op_nes {a b : Str} : OpJ c (compareOp .NotEq) (.str a) (.str b) (.bool (!(a == b))) := fun ρ h tk Q E v u S r1 r2 k => by
  obtain ⟨_, rfl⟩ := r1.i; obtain ⟨_, rfl⟩ := r2.i; exact ne_str' (k _ _ _ .refl .bool)
theorem ev_neg {e : Expr} {a : Int} {p} (h1 : EvJ c ρ e (.int a)) : EvJ c ρ (.UnaryOp .USub e p) (.int (-a)) := fun h tk Q E S k =>
  wpAny_UnaryOp (h1 h tk _ _ S fun h' tk' v k1 r1 => by obtain ⟨_, rfl⟩ := r1.i; exact PyProof.Rows.neg_int (k _ _ _ k1 .int))
theorem ts_chain {l m r : Expr} {op1 op2 : CmpOp} {a b d : AV} {x y : Bool} {p} (ok : c.Ok lev) (h1 : EvJ c ρ l a) (h2 : EvJ c ρ m b) (h3 : EvJ c ρ r d) (o1 : OpJ c (compareOp op1) a b (.bool x)) (o2 : OpJ c (compareOp op2) b d (.bool y)) (hm : lastMarks [op1, op2] [m, r] = false) :
    TsJ c ρ (.Compare l [op1, op2] [m, r] p) (x && y) := fun h tk Q E S k => by
  refine isTrue_chain (h1 h tk _ _ S fun h' tk' v k1 r1 => ?_) hm
  have S1 := S.kp ok k1
  refine test_link (h2 h' tk' _ _ S1 fun h2' tk2 u k2 r2 => ?_)
  have S2 := S1.kp ok k2
  refine o1 ρ h2' tk2 _ _ v u S2 (r1.mono (k2.vle ok.frX)) r2 fun h3' tk3 z k3 r3 => ?_
  obtain rfl := r3.i
  have S3 := S2.kp ok k3
  refine wpAny_truthy_bool ?_
  have k13 := (k1.trans k2).trans k3
  cases x
  · exact k _ _ k13
  · rw [if_pos rfl]
    refine test_last (h3 h3' tk3 _ _ S3 fun h4 tk4 z k4 r4 => ?_)
    have S4 := S3.kp ok k4
    refine o2 ρ h4 tk4 _ _ u z S4 (r2.mono ((k3.trans k4).vle ok.frX)) r4 fun h5 tk5 q k5 r5 => ?_
    obtain rfl := r5.i
    exact wpAny_truthy_bool (k _ _ ((k13.trans k4).trans k5))
end
noncomputable def toPD : AV → PyData
  | .int n => .int n | .str s => .str s | .bool b => .bool b | _ => .none
noncomputable def flatA : AV → Bool
  | .int _ | .str _ | .bool _ | .none => true | _ => false
theorem reads_of {h : Heap} {X : List Addr} {v : Value} {a : AV} (fl : flatA a = true) (r : Rep (vw h X) v a) : Reads h v (toPD a) [] := by
  cases r <;> first | exact .none | exact .bool _ | exact .int _ _ | exact .str _ _ | cases fl
theorem readsAll_of {h : Heap} {X : List Addr} : ∀ {vs : List Value} {as : List AV}, as.all flatA = true → Reps (vw h X) vs as → ReadsAll h vs (as.map toPD) []
  | _, _, _, .nil => .nil
  | _, _, fl, .cons r rs => by
    rw [List.all_cons, Bool.and_eq_true] at fl
    exact .cons (as := []) (reads_of fl.1 r) (readsAll_of fl.2 rs)
theorem reads_tup {h : Heap} {X : List Addr} {v : Value} {as : List AV} (fl : as.all flatA = true) (r : Rep (vw h X) v (.tup as)) : Reads h v (.tuple (as.map toPD)) [] := by
  cases r with
  | tup e c d rs => exact .tuple (vw_ge e) c d (readsAll_of fl rs)
section
variable {c : Cx} {lev : Nat} {ρ : Loc}
theorem op_eqt {as bs : List AV} (ok : c.Ok (lev + 1)) (fa : as.all flatA = true) (fb : bs.all flatA = true) (sa : SeqAt.shaped (.tuple (as.map toPD)) = true) (sb : SeqAt.shaped (.tuple (bs.map toPD)) = true) :
    OpJ c (compareOp .Eq) (.tup as) (.tup bs) (.bool (PyData.eqv (.tuple (as.map toPD)) (.tuple (bs.map toPD)))) := fun ρ h tk Q E v u S r1 r2 k =>
  SeqAt.compareEq_shaped (reads_tup fa r1) (reads_tup fb r2) sa sb (by have := ok.units; show c.A.units + 3 + 64 < 9900; omega) (k _ _ _ .refl .bool)
theorem op_net {as bs : List AV} (ok : c.Ok (lev + 1)) (fa : as.all flatA = true) (fb : bs.all flatA = true) (sa : SeqAt.shaped (.tuple (as.map toPD)) = true) (sb : SeqAt.shaped (.tuple (bs.map toPD)) = true) :
    OpJ c (compareOp .NotEq) (.tup as) (.tup bs) (.bool (!PyData.eqv (.tuple (as.map toPD)) (.tuple (bs.map toPD)))) := fun ρ h tk Q E v u S r1 r2 k =>
  SeqAt.compareNe_shaped (reads_tup fa r1) (reads_tup fb r2) sa sb (by have := ok.units; show c.A.units + 3 + 64 < 9900; omega) (k _ _ _ .refl .bool)
theorem any_strs (k : Str) : ∀ ss : List Str, ((ss.map AV.str).map toPD).any (fun y => PyData.eqv y (.str k)) = ss.any (· == k)
  | [] => rfl
  | s :: ss => by rw [List.map_cons, List.map_cons, List.any_cons, List.any_cons, any_strs k ss]; rfl
theorem depth_strs : ∀ ss : List Str, PyData.depthAll ((ss.map AV.str).map toPD) ≤ 1
  | [] => by decide
  | s :: ss => Nat.max_le.mpr ⟨by unfold toPD; simp [PyData.depth], depth_strs ss⟩
theorem op_inT {k : Str} {ss : List Str} (ok : c.Ok (lev + 1)) (hs : PyData.canLayAll0 ((ss.map AV.str).map toPD) = true) (hk : (PyData.str k).canLay0 = true) : OpJ c (compareOp .In) (.str k) (.tup (ss.map AV.str)) (.bool (ss.any (· == k))) := fun ρ h tk Q E v u S r1 r2 q => by
  obtain ⟨_, rfl⟩ := r1.i
  refine SeqAt.in_tuple_reads (reads_tup (List.all_eq_true.mpr fun a ha => by obtain ⟨s, _, rfl⟩ := List.mem_map.mp ha; rfl) r2) (.str k _) hs hk (by have := ok.units; have := depth_strs ss; show c.A.units + 3 + 1 + min _ _ < 9900; omega) ?_
  rw [any_strs]
  exact q _ _ _ .refl .bool
theorem op_notinT {k : Str} {ss : List Str} (ok : c.Ok (lev + 1)) (hs : PyData.canLayAll0 ((ss.map AV.str).map toPD) = true) (hk : (PyData.str k).canLay0 = true) : OpJ c (compareOp .NotIn) (.str k) (.tup (ss.map AV.str)) (.bool (!ss.any (· == k))) := fun ρ h tk Q E v u S r1 r2 q => by
  obtain ⟨_, rfl⟩ := r1.i
  refine SeqAt.notIn_tuple_reads (reads_tup (List.all_eq_true.mpr fun a ha => by obtain ⟨s, _, rfl⟩ := List.mem_map.mp ha; rfl) r2) (.str k _) hs hk (by have := ok.units; have := depth_strs ss; show c.A.units + 3 + 1 + min _ _ < 9900; omega) ?_
  rw [any_strs]
  exact q _ _ _ .refl .bool
theorem isList_of {h : Heap} {X : List Addr} {v : Value} {as : List AV} (r : Rep (vw h X) v (.list as)) : ∃ a vs, v = .ref a ∧ h.IsList a (List.toArray vs) ∧ Reps (vw h X) vs as := by
  cases r with
  | list e c d rs => exact ⟨_, _, rfl, ⟨_, vw_ge e, c, _, d⟩, rs⟩
theorem Reps.append {V : View} : ∀ {vs as ws bs}, Reps V vs as → Reps V ws bs → Reps V (vs ++ ws) (as ++ bs)
  | _, _, _, _, .nil, q => q
  | _, _, _, _, .cons r rs, q => .cons r (rs.append q)
theorem Reps.get {V : View} : ∀ {vs : List Value} {as : List AV}, Reps V vs as → ∀ (i : Nat) (a : AV), as[i]? = some a → ∃ v, vs[i]? = some v ∧ Rep V v a
  | _, _, .nil, i, a, e => by simp at e
  | _, _, .cons r rs, 0, a, e => by cases e; exact ⟨_, rfl, r⟩
  | _, _, .cons r rs, i + 1, a, e => rs.get i a e
theorem op_addl {as bs : List AV} (ok : c.Ok lev) (hz : as.length + bs.length ≤ 1000) : OpJ c (binaryOp .Add) (.list as) (.list bs) (.list (as ++ bs)) := fun ρ h tk Q E v u S r1 r2 k => by
  cases r1 with
  | @list l o vs n _ e1 c1 d1 rs1 =>
  cases r2 with
  | @list b o2 ws n2 _ e2 c2 d2 rs2 =>
  obtain ⟨cls, dd, data, sl⟩ := o
  obtain ⟨cls2, dd2, data2, sl2⟩ := o2
  simp only at c1 d1 c2 d2
  subst c1 d1 c2 d2
  have ho := vw_ge e1
  have ho2 := vw_ge e2
  refine concat_meets (s := c.sh h tk) ⟨_, ho, rfl⟩ ⟨_, ho2, rfl⟩ noFill_list_add seq_list_add PySem.F.slot_list_add PySem.F.entry_list_add (PySem.F.args_list_add_2 _ _) (list_addW l b vs.toArray ws.toArray n n2 dd dd2 sl sl2 (by simp only [List.size_toArray, rs1.len, rs2.len, sizeLine_eq]; omega)) ⟨ho, ho2, ?_⟩
  have e : vs.toArray ++ ws.toArray = (vs ++ ws).toArray := by simp
  rw [e]
  have kp : Kp c.fr h (h.push { cls := Value.type "list", data := Data.seq (vs ++ ws).toArray }) := Kp.push _
  exact k _ _ _ kp (.list (vw_push S.lt _ rfl) rfl rfl (Reps.mono (kp.vle ok.frX) (rs1.append rs2)))
theorem sb_list {value slice : Expr} {as : List AV} {i : Int} {a : AV} (ok : c.Ok lev) (h0 : 0 ≤ i) (h1 : i < 2 ^ 63) (hx : as[i.toNat]? = some a)
    (hs : ∀ a t, subscripted slice false (.ref a) (.int i t) = operate [.ref a, .int i t] (getItem (.ref a) (.int i t))) : SbJ c value slice (.list as) (.int i) a := fun ρ h tk Q E v u S r1 r2 q => by
  obtain ⟨l, vs, rfl, hl, rs⟩ := isList_of r1
  obtain ⟨_, rfl⟩ := r2.i
  obtain ⟨x, hv, hr⟩ := rs.get _ _ hx
  exact sub_tail (s := c.sh h tk) hl.typeIs slot_list_getitem.lookup (wpAny_getItem_list hl h0 h1 (by simpa using hv) (q _ _ _ .refl hr)) (hs _ _)
theorem rep_foldl (v : Value) : ∀ n (acc : Array Value), List.foldl (fun x1 x2 => x1 ++ x2) acc (List.replicate n #[v]) = acc ++ (List.replicate n v).toArray
  | 0, acc => by simp
  | n + 1, acc => by
    rw [List.replicate_succ, List.foldl_cons, rep_foldl v n]
    apply Array.ext'
    simp [List.replicate_succ]
theorem Reps.rep {V : View} {v a} (r : Rep V v a) : ∀ n, Reps V (List.replicate n v) (List.replicate n a)
  | 0 => .nil
  | n + 1 => .cons r (Reps.rep r n)
theorem ev_listmul {x e : Expr} {a : AV} {n : Int} {p1 p2} (ok : c.Ok lev) (h1 : EvsJ c ρ [x] [a]) (h2 : EvJ c ρ e (.int n)) (h0 : 0 ≤ n) (hn : n ≤ 1000) : EvJ c ρ (.BinOp (.List [x] p1) .Mult e p2) (.list (List.replicate n.toNat a)) := fun h tk Q E S k => by
  refine wpAny_BinOp ?_
  refine List_ (h1 p1 h tk _ _ S fun h' tk' vs k1 rs => ?_)
  have S1 := S.kp ok k1
  replace rs := rs.i; obtain ⟨_, _, rfl, r, rs⟩ := rs
  obtain rfl := rs.i
  rename_i v
  have kp : Kp c.fr h' (h'.push { cls := Value.type "list", data := Data.seq #[v] }) := Kp.push _
  refine wpAny_newList (h2 _ _ _ _ (S1.kp ok kp) fun h2' tk2 u k2 r2 => ?_) (by rw [sizeLine_eq]; simp)
  obtain ⟨_, rfl⟩ := r2.i
  have S2 := (S1.kp ok kp).kp ok k2
  have hfr : h'.objs.size ∉ c.fr := fun q => Nat.lt_irrefl _ (S1.lt _ (ok.frX _ q))
  have hl : h2'.get? h'.objs.size = some { cls := .type "list", dict := none, data := .seq #[v] 0, slots := #[] } := k2.2.1 _ _ hfr (Heap.get?_push_size _ rfl)
  refine wpAny_binaryOp_repeat_ref (s := c.sh h2' tk2) (T := "list") (U := "int") (by decide) ⟨_, hl, rfl⟩ (fun s' => typeIs_int s' n _) noFill_list_mul PySem.F.fills_int_mul PySem.F.slot_int_rmul repeat_list PySem.F.slot_int_index.lookup
    (call_meets PySem.F.slot_int_rmul (typeIs_int _ n _) PySem.F.entry_int_rmul (PySem.F.args_int_rmul_2 _ _) (int___rmul___int_list n _ _ #[v] 0)
      ⟨hl, rfl, ⟨_, hl, rfl⟩, call_meets PySem.F.slot_list_mul ⟨_, hl, rfl⟩ PySem.F.entry_list_mul (PySem.F.args_list_mul_2 _ _)
        (AutoListH.list___mul___list_int_3 _ #[v] 0 n _ (by simp [Builtin.List.listFitsIndex]; omega) (by simp; omega) (by simp [Builtin.List.listTooLong, sizeLine]; omega))
        ⟨hl, ?_⟩⟩)
  rw [if_neg (by simp), rep_foldl]
  have kp2 : ∀ o, Kp c.fr h2' (h2'.push o) := fun o => Kp.push _
  have kk := fun o => ((k1.trans kp).trans k2).trans (kp2 o)
  refine k _ _ _ (kk _) ?_
  refine .list (n := 0) (o := { cls := .type "list", data := .seq (List.replicate n.toNat v).toArray }) (vs := List.replicate n.toNat v) ?_ rfl rfl ?_
  · refine (vw_push S2.lt _ rfl).trans ?_
    simp
  · exact Reps.rep (r.mono (((kp.trans k2).trans (kp2 _)).vle ok.frX)) _
end
theorem vw_not {h : Heap} {X : List Addr} {a : Addr} {o : Obj} (e : vw h X a = some o) : a ∉ X := fun z => by
  unfold vw at e; rw [if_pos z] at e; cases e
section
variable {c : Cx} {lev : Nat} {ρ : Loc}
theorem none_back {h h' : Heap} {fr : List Addr} {a : Addr} (k : Kp fr h h') (hn : h'.get? a = none) : h.get? a = none := by
  cases q : h.get? a with
  | none => rfl
  | some o => obtain ⟨sl, z⟩ := k.2.2 a o q; rw [hn] at z; cases z
theorem new_none (h : Heap) : h.get? h.objs.size = none := Heap.get?_none_of_le (Nat.le_refl _)
theorem fr_lt {h : Heap} (S : St c ρ h) (a : Addr) (ha : a ∈ c.fr ∨ a ∈ c.own) : a < h.objs.size := There.lt (S.there a ha)
noncomputable def TgOk (t : Expr) (a : AV) : Prop := (∃ x p, t = .Name x p) ∨ ∃ e n p l, t = .Tuple e n p ∧ a = .tup l
noncomputable def Cx.hideO (c : Cx) (it : Addr) (Y : List Addr) : Cx := { c with X := Y ++ it :: c.X, own := Y ++ c.own }
noncomputable def IeS (c : Cx) (ρ : Loc) (target iter : Expr) (n : Nat) (item : Nat → AV) : Prop := ∀ h tk Q E, St c ρ h →
  (∀ h' tk' it (I : List Addr → Nat → Heap → Prop), Kp c.fr h h' → h.get? it = none → (∃ o, h'.get? it = some o) → (∀ Y : List Addr, (∀ a ∈ Y, h'.get? a = none) → ItJ (c.hideO it Y) target it n item (I Y) ∧ ∀ h2, (∀ a o, h'.get? a = some o → h2.get? a = some o) → I Y 0 h2) → (∀ Y i h tk Q E, I Y i h → Q (.ref it) (c.sh h tk) → wpAny c.M c.B (pyIter (.ref it)) Q E (c.sh h tk)) → Q (.ref it) (c.sh h' tk')) →
  wpAny c.M c.B (eval iter c.env) (fun x s₁ => wpAny c.M c.B (pyIter x) Q E s₁) E (c.sh h tk)
theorem IeS.ie {target iter : Expr} {n : Nat} {item : Nat → AV} (h : IeS c ρ target iter n item) : IeJ c ρ target iter n item := fun hp tk Q E S k =>
  h hp tk Q E S fun h' tk' it I k1 k2 k3 k4 _ => by
    obtain ⟨a, b⟩ := k4 [] (fun _ z => nomatch z)
    exact k h' tk' it (I []) k1 k2 k3 a (b _ fun _ _ e => e)
theorem is_list {target iter : Expr} {as : List AV} (ok : c.Ok lev) (h1 : EvJ c ρ iter (.list as)) (ht : ∀ a ∈ as, TgOk target a) (item : Nat → AV) (hi : ∀ i a, as[i]? = some a → item i = a) : IeS c ρ target iter as.length item := fun h tk Q E S k => by
  refine h1 h tk _ _ S fun h1' tk1 v k1 r1 => ?_
  have S1 := S.kp ok k1
  obtain ⟨l, vs, rfl, hl, rs⟩ := isList_of r1
  have lX : l ∉ c.X := by cases r1 with | list e => exact vw_not e
  have hlt : l < h1'.objs.size := let ⟨_, e, _⟩ := hl; Heap.lt_size e
  refine wpAny_pyIter_list (s := c.sh h1' tk1) hl ?_
  have kp : Kp c.fr h1' (h1'.push { cls := .type "list_iterator", data := .fields #[.ref l, .int 0 0] }) := Kp.push _
  have hget : (h1'.push { cls := .type "list_iterator", data := .fields #[.ref l, .int 0 0] }).get? h1'.objs.size = some { cls := .type "list_iterator", data := .fields #[.ref l, .int 0 0] } := Heap.get?_push_size _ rfl
  refine k _ tk1 h1'.objs.size (fun Y i h => h.IsListIter h1'.objs.size l i ∧ h.IsList l vs.toArray ∧ Reps (vw h (Y ++ h1'.objs.size :: c.X)) vs as) (k1.trans kp) (none_back k1 (new_none _)) ⟨_, hget⟩ (fun Y hY => ⟨?_, fun h2 g => ?_⟩) (fun Y i h tk Q E I q => wpAny_pyIter_listiter (s := c.sh h tk) I.1 q)
  · have nY : ∀ a o, (h1'.push { cls := .type "list_iterator", data := .fields #[.ref l, .int 0 0] }).get? a = some o → a ∉ Y := fun a o e z => by rw [hY a z] at e; cases e
    have lY : l ∉ Y := let ⟨o, e, _⟩ := hl; nY l o (Heap.get?_push_of_some _ e)
    have iY : h1'.objs.size ∉ Y := nY _ _ hget
    refine ⟨fun i h h' I kk => ?_, fun i h tk Q E hin I hx kq => ?_, fun h tk Q E I kq => ?_⟩
    · have hit : h1'.objs.size ∉ c.fr ∧ h1'.objs.size ∉ Y ++ c.own := ⟨fun z => Nat.lt_irrefl _ (fr_lt S1 _ (.inl z)), fun z => (List.mem_append.mp z).elim iY fun z => Nat.lt_irrefl _ (fr_lt S1 _ (.inr z))⟩
      refine ⟨I.1.at fun o e => kk.2.1 _ o hit.1 hit.2 e, I.2.1.at fun o e => kk.2.1 _ o (fun z => lX (ok.frX _ z)) (fun z => (List.mem_append.mp z).elim lY fun z => lX (ok.ownX _ z)) e, I.2.2.mono fun a o e => ?_⟩
      unfold vw at e ⊢
      split at e
      · cases e
      · rename_i q
        rw [if_neg q]
        exact kk.2.1 a o (fun z => q (List.mem_append_right _ (.tail _ (ok.frX a z)))) (fun z => (List.mem_append.mp z).elim (fun z => q (List.mem_append_left _ z)) fun z => q (List.mem_append_right _ (.tail _ (ok.ownX a z)))) e
    · have hin' : i < as.length := hin
      obtain ⟨v, hv, hr⟩ := I.2.2.get i as[i] (by simp [hin'])
      refine wpAny_pyNext_list_item (s := c.sh h tk) I.1 I.2.1 (x := v) (by simpa using hv) fun h' hit' hs' => ⟨v, rfl, ?_⟩
      have kb : ∀ b o, b ≠ h1'.objs.size → h.get? b = some o → h'.get? b = some o := fun b o n e => hs'.extBut b o n e
      have ve : VLe (vw h (Y ++ h1'.objs.size :: c.X)) (vw h' (Y ++ h1'.objs.size :: c.X)) := fun a o e => by
        unfold vw at e ⊢
        split at e
        · cases e
        · rename_i q
          rw [if_neg q]
          exact kb a o (fun z => q (z ▸ List.mem_append_right _ (.head _))) e
      have fin : Q v (c.sh h' tk) := kq h' tk v kb (let ⟨o, e, _⟩ := hit'; ⟨o, e⟩) ⟨hit', I.2.1.extBut hs'.extBut (Nat.ne_of_lt hlt), I.2.2.mono ve⟩ (by rw [hi i as[i] (by simp [hin'])]; exact hr.mono ve)
      rcases ht as[i] (List.getElem_mem hin') with ⟨x, p, rfl⟩ | ⟨e, n, p, l', rfl, q⟩
      · exact wpAny_pure fin
      · rw [q] at hr
        cases hr
        exact wpAny_letOwnedTupleGo_listiter (s := c.sh h' tk) hit' fin
    · exact wpAny_pyNext_list_end (s := c.sh h tk) (show c.B.handled = none from ok.hand) I.1 I.2.1 (by simp [I.2.2.len]) fun h' he' => ⟨rfl, kq h' tk fun b o n e => he' b o n e⟩
  · have g1 : ∀ a o, h1'.get? a = some o → h2.get? a = some o := fun a o e => g a o (Heap.get?_push_of_some _ e)
    refine ⟨⟨_, g _ _ hget, rfl, rfl⟩, hl.at (g1 l), rs.mono fun a o e => ?_⟩
    have hn' := vw_ge e
    have aX := vw_not e
    unfold vw
    rw [if_neg (fun z => ?_)]
    · exact g1 a o hn'
    · rcases List.mem_append.mp z with z | z
      · have := hY a z
        rw [Heap.get?_push_of_some _ hn'] at this
        cases this
      · rcases List.mem_cons.mp z with z | z
        · rw [z, new_none] at hn'; cases hn'
        · exact aX z
theorem it_range {target : Expr} {h1 : Heap} {tk1 : Nat} {a d : Int} {n : Nat} {Q : Value → Shared → Prop} {E} {x : Str} {p : Pos} {ρ : Loc} {h : Heap} {r : Addr} {b : Int} {t u v : Tok} (ok : c.Ok lev) (ht : target = .Name x p) (S1 : St c ρ h1) (hr : IsRange h1 r a b d t u v) (hs : Builtin.Range.small a b d = true) (hn : Builtin.Range.rangeSize a b d = (n : Int)) (k1 : Kp c.fr h h1)
    (k : ∀ h' tk' it (I : List Addr → Nat → Heap → Prop), Kp c.fr h h' → h.get? it = none → (∃ o, h'.get? it = some o) → (∀ Y : List Addr, (∀ a ∈ Y, h'.get? a = none) → ItJ (c.hideO it Y) target it n (fun i => .int (a + (i : Nat) * d)) (I Y) ∧ ∀ h2, (∀ a o, h'.get? a = some o → h2.get? a = some o) → I Y 0 h2) → (∀ Y i h tk Q E, I Y i h → Q (.ref it) (c.sh h tk) → wpAny c.M c.B (pyIter (.ref it)) Q E (c.sh h tk)) → Q (.ref it) (c.sh h' tk')) :
    wpAny c.M c.B (pyIter (.ref r)) Q E (c.sh h1 tk1) := by
  subst ht
  refine wpAny_pyIter_range (s := c.sh h1 tk1) hr hs ?_
  have kp : ∀ o, Kp c.fr h1 (h1.push o) := fun o => Kp.push _
  have hget : ∀ o : Obj, o.isFreed = false → (h1.push o).get? h1.objs.size = some o := fun o e => Heap.get?_push_size _ e
  refine k _ tk1 h1.objs.size (fun _ i h => IsRangeIter h h1.objs.size (a + (i : Nat) * d) ((n : Int) - (i : Nat)) d) (k1.trans (kp _)) (none_back k1 (new_none _)) ⟨_, hget _ rfl⟩ (fun Y hY => ⟨?_, fun h2 g => ?_⟩) (fun Y i h tk Q E I q => wpAny_pyIter_rangeiter (s := c.sh h tk) I q)
  · have iY : h1.objs.size ∉ Y := fun z => by have := hY _ z; rw [hget _ rfl] at this; cases this
    have hit : h1.objs.size ∉ c.fr ∧ h1.objs.size ∉ Y ++ c.own := ⟨fun z => Nat.lt_irrefl _ (fr_lt S1 _ (.inl z)), fun z => (List.mem_append.mp z).elim iY fun z => Nat.lt_irrefl _ (fr_lt S1 _ (.inr z))⟩
    refine ⟨fun i h h' I kk => kk.2.1 _ _ hit.1 hit.2 I, fun i h tk Q E hin I hx kq => ?_, fun h tk Q E I kq => ?_⟩
    · refine wpAny_pyNext_range_item (s := c.sh h tk) I (by omega) fun h' hit' hs' => ⟨_, rfl, ?_⟩
      have e1 : a + ((i + 1 : Nat) : Int) * d = a + (i : Int) * d + d := by push_cast; rw [Int.add_mul, Int.one_mul, Int.add_assoc]
      have e2 : (n : Int) - ((i + 1 : Nat) : Int) = (n : Int) - (i : Int) - 1 := by push_cast; omega
      exact wpAny_pure (kq h' _ _ (fun b o n e => hs'.extBut b o n e) ⟨_, hit'⟩ (by show IsRangeIter _ _ _ _ _; rw [e1, e2]; exact hit') .int)
    · exact wpAny_pyNext_range_end (s := c.sh h tk) (show c.B.handled = none from ok.hand) I (by omega) fun h' he' => ⟨rfl, kq h' tk fun b o n e => he' b o n e⟩
  · refine g _ _ ?_
    rw [hn]
    simpa using Heap.get?_push_size h1 rfl
theorem is_range1 {x : Str} {p rp cp : Pos} {e : Expr} {n : Nat} (ok : c.Ok lev) (hx : EvJ c ρ (.Name (Str.ofString "range") rp) (.glob (.type "range"))) (h2 : EvsJ c ρ [e] [.int n]) (hn : n < 2 ^ 62)
    (he : eval (.Call (.Name (Str.ofString "range") rp) [e] [] cp) c.env = (do callWith cp (← eval (.Name (Str.ofString "range") rp) c.env) [] (backTo cp (starEach [e] c.env)) (backToKw cp (keywordEach [] c.env))))
    (hs : starEach [e] c.env = (false, eval e c.env) :: starEach [] c.env) : IeS c ρ (.Name x p) (.Call (.Name (Str.ofString "range") rp) [e] [] cp) n (fun i => .int (i : Nat)) := fun h tk Q E S k => by
  refine Call_ (hx h tk _ _ S fun h' tk' v k1 r1 => ?_) he
  obtain rfl := r1.i
  have S1 := S.kp ok k1
  refine PyProof.Rows.callWith_type1 (h2 cp h' tk' _ _ S1 fun h2' tk2 vs k2 rs => ?_) hs rfl
  replace rs := rs.i; obtain ⟨_, _, rfl, r, rs⟩ := rs
  obtain rfl := rs.i
  obtain ⟨_, rfl⟩ := r.i
  have S2 := S1.kp ok k2
  refine call_range_1 (s := c.sh h2' tk2) ?_
  have kp : ∀ o, Kp c.fr h2' (h2'.push o) := fun o => Kp.push _
  refine it_range (x := x) (p := p) (a := 0) (d := 1) (n := n) (tk1 := tk2 + 1 + 1) ok rfl (S2.kp ok (kp _)) (IsRange.new ..) (small_one (by decide) (by decide) (by omega) (by omega)) (by rw [rangeSize_one]; split <;> omega) ((k1.trans k2).trans (kp _)) ?_
  intro h' tk' it I q1 q2 q3 q4 q6
  refine k h' tk' it I q1 q2 q3 ?_ q6
  have : (fun i : Nat => AV.int (0 + (i : Nat) * 1)) = fun i : Nat => AV.int (i : Nat) := by funext i; congr 1; omega
  rw [← this]
  exact q4
theorem is_range3 {x : Str} {p rp cp : Pos} {e1 e2 e3 : Expr} {a b d : Int} {n : Nat} (ok : c.Ok lev) (hx : EvJ c ρ (.Name (Str.ofString "range") rp) (.glob (.type "range"))) (h2 : EvsJ c ρ [e1, e2, e3] [.int a, .int b, .int d]) (hd : d ≠ 0) (hsm : Builtin.Range.small a b d = true) (hn : Builtin.Range.rangeSize a b d = (n : Int))
    (hp : Builtin.divisionGoesByPylong (b - a) d = false)
    (he : eval (.Call (.Name (Str.ofString "range") rp) [e1, e2, e3] [] cp) c.env = (do callWith cp (← eval (.Name (Str.ofString "range") rp) c.env) [] (backTo cp (starEach [e1, e2, e3] c.env)) (backToKw cp (keywordEach [] c.env))))
    (hs : starEach [e1, e2, e3] c.env = (false, eval e1 c.env) :: starEach [e2, e3] c.env) (hs' : (backTo cp (starEach [e2, e3] c.env)).any (·.1) = false) : IeS c ρ (.Name x p) (.Call (.Name (Str.ofString "range") rp) [e1, e2, e3] [] cp) n (fun i => .int (a + (i : Nat) * d)) := fun h tk Q E S k => by
  refine Call_ (hx h tk _ _ S fun h' tk' v k1 r1 => ?_) he
  obtain rfl := r1.i
  have S1 := S.kp ok k1
  refine PyProof.Rows.callWith_type1 (h2 cp h' tk' _ _ S1 fun h2' tk2 vs k2 rs => ?_) hs hs'
  replace rs := rs.i; obtain ⟨_, _, rfl, r, rs⟩ := rs
  replace rs := rs.i; obtain ⟨_, _, rfl, r', rs⟩ := rs
  replace rs := rs.i; obtain ⟨_, _, rfl, r'', rs⟩ := rs
  obtain rfl := rs.i
  obtain ⟨_, rfl⟩ := r.i
  obtain ⟨_, rfl⟩ := r'.i
  obtain ⟨_, rfl⟩ := r''.i
  have S2 := S1.kp ok k2
  have kp : ∀ o, Kp c.fr h2' (h2'.push o) := fun o => Kp.push _
  refine call_range_3 (s := c.sh h2' tk2) hd ?_ (.inl hp)
  exact it_range (x := x) (p := p) (n := n) (tk1 := tk2) ok rfl (S2.kp ok (kp _)) (IsRange.new ..) hsm hn ((k1.trans k2).trans (kp _)) k
end
noncomputable abbrev PG := PySem.Challenge.rw_nz0215_01.row.prog
noncomputable def EpJ (c : Cx) (ρ : Loc) (keys : List (Option Expr)) (vals : List Expr) (pos : Pos) (kvs : List (Str × Int)) : Prop := ∀ h tk Q E, St c ρ h →
  (∀ h' tk' vs ks, Kp c.fr h h' → Carries (strKind PG c.gd.w) vs ks → KvI ks kvs → Q vs (c.sh h' tk')) → wpAny c.M c.B (evalPairs (pairTrees keys vals c.env pos)) Q E (c.sh h tk)
theorem KvI.keys : ∀ {ks kvs}, KvI ks kvs → ks.map (·.1) = kvs.map (·.1)
  | _, _, .nil => rfl
  | _, _, .cons r => congrArg (_ :: ·) r.keys
theorem KvI.len : ∀ {ks kvs}, KvI ks kvs → ks.length = kvs.length
  | _, _, .nil => rfl
  | _, _, .cons r => congrArg (· + 1) r.len
theorem KvI.get : ∀ {ks kvs}, KvI ks kvs → ∀ (i : Nat) k n, kvs[i]? = some (k, n) → ∃ t, ks[i]? = some (k, .int n t)
  | _, _, .nil, i, k, n, e => by simp at e
  | _, _, .cons r, 0, k, n, e => by cases e; exact ⟨_, rfl⟩
  | _, _, .cons r, i + 1, k, n, e => r.get i k n e
theorem KvI.valueAt : ∀ {ks kvs}, KvI ks kvs → ∀ {k n}, kvs.lookup k = some n → ∃ t, valueAt ks k = some (.int n t)
  | _, _, .nil, k, n, e => by cases e
  | _, _, .cons (x := x) (n := m) (t := tt) (l := l) r, k, n, e => by
    rw [List.lookup_cons] at e
    unfold PySem.valueAt
    rw [List.find?_cons]
    split at e
    · rename_i q
      cases e
      rw [beq_iff_eq.mp q]
      exact ⟨tt, by simp⟩
    · rename_i q
      have q' : ¬ x = k := fun z => by rw [z, beq_self_eq_true] at q; cases q
      simp only [q', decide_false]
      exact r.valueAt e
noncomputable def setKv (kvs : List (Str × Int)) (k : Str) (n : Int) : List (Str × Int) := kvs.map fun p => if p.1 = k then (p.1, n) else p
theorem KvI.stored {ks kvs} {k n t m} (r : KvI ks kvs) (e : kvs.lookup k = some m) : KvI (PySem.stored ks k (.int n t)) (setKv kvs k n) := by
  have any : ∀ {ks kvs}, KvI ks kvs → kvs.lookup k = some m → ks.any (fun kv => kv.1 = k) = true := fun {ks kvs} r => by
    induction r with
    | nil => intro e; cases e
    | cons r ih =>
      intro e
      rw [List.lookup_cons] at e
      rw [List.any_cons]
      split at e
      · rename_i q; rw [beq_iff_eq.mp q]; simp
      · rw [ih e]; simp
  unfold PySem.stored
  rw [if_pos (any r e)]
  clear e
  induction r with
  | nil => exact .nil
  | @cons x n' t' l m' r ih =>
    unfold setKv
    rw [List.map_cons, List.map_cons]
    by_cases q : x = k
    · simp only [q, if_true]
      exact .cons ih
    · simp only [q, if_false]
      exact .cons ih
theorem merged_nodup : ∀ (more acc : List (Str × Value)), (acc ++ more).map (·.1) |>.Nodup → merged acc more = acc ++ more
  | [], acc, _ => by simp [merged]
  | (k, v) :: more, acc, h => by
    have hk : (acc.any fun kv => kv.1 = k) = false := by
      rw [List.any_eq_false]
      intro p hp q
      rw [List.map_append, List.nodup_append] at h
      have := h.2.2 p.1 (List.mem_map_of_mem hp) k (by simp)
      exact this (by simpa using q)
    show merged (PySem.stored acc k v) more = _
    unfold PySem.stored
    rw [if_neg (by rw [hk]; decide), merged_nodup more (acc ++ [(k, v)]) (by simpa using h)]
    simp
section
variable {c : Cx} {lev : Nat} {ρ : Loc}
theorem ep_nil {pos} : EpJ c ρ [] [] pos [] := fun h tk Q E S k => evalPairs_nil (k h tk [] [] .refl trivial .nil)
theorem ep_cons {s : Str} {kk kp pos} {e : Expr} {n : Int} {keys vals kvs} (ok : c.Ok lev) (h1 : EvJ c ρ e (.int n)) (h2 : EpJ c ρ keys vals pos kvs) : EpJ c ρ (some (.Constant (.str s) kk kp) :: keys) (e :: vals) pos ((s, n) :: kvs) := fun h tk Q E S k => by
  refine evalPairs_cons ?_
  refine (ev_str (c := c) (ρ := ρ)) h tk _ _ S fun h' tk' v k1 r1 => ?_
  have S1 := S.kp ok k1
  refine wpAny_bind (h1 h' tk' _ _ S1 fun h2' tk2 u k2 r2 => wpAny_bind (wpAny_standAt (wpAny_pure ?_)))
  have S2 := S1.kp ok k2
  refine h2 h2' tk2 _ _ S2 fun h3 tk3 vs ks k3 cs kv => ?_
  obtain ⟨_, rfl⟩ := r1.i
  obtain ⟨_, rfl⟩ := r2.i
  exact k h3 tk3 _ ((s, _) :: ks) ((k1.trans k2).trans k3) ⟨strKind_is _ _ _ _, rfl, cs⟩ (.cons kv)
theorem dict_o {h : Heap} {w a vs} (d : h.DictOf (strKind PG w) a vs) : ∃ o, h.get? a = some o ∧ DictO w o vs := let ⟨o, es, ep, e, r⟩ := d; ⟨o, e, es, ep, r⟩
theorem o_dict {h : Heap} {w a vs o} (e : h.get? a = some o) (d : DictO w o vs) : h.DictOf (strKind PG w) a vs := let ⟨es, ep, r⟩ := d; ⟨o, es, ep, e, r⟩
theorem dict_new {keys vals pos kvs} {h : Heap} {tk : Nat} {Q : Value → Shared → Prop} {E} (ok : c.Ok lev) (h1 : EpJ c ρ keys vals pos kvs) (hn : (kvs.map (·.1)).Nodup) (hall : keys.all (·.isSome) = true) (hl : keys.length = vals.length) (h0 : keys ≠ []) (hlen : keys.length ≤ 15)
    (S : St c ρ h) (k : ∀ h' tk' d vs, Kp c.fr h h' → h.get? d = none → d ∉ c.X → (d == sysModules) = false → h'.DictOf (strKind PG c.gd.w) d vs → KvI vs kvs → Q (.ref d) (c.sh h' tk')) : wpAny c.M c.B (eval (.Dict keys vals pos) c.env) Q E (c.sh h tk) := by
  refine wpAny_Dict_walk (knd := strKind PG c.gd.w) hall hl h0 hlen ?_
  have kp : Kp c.fr h (h.push { cls := .type "dict", data := .dict #[] }) := Kp.push _
  have S1 := S.kp ok kp
  refine h1 _ tk _ _ S1 fun h2 tk2 vs ks k2 cs kv => ⟨ks, cs, ?_, fun h' hd hs => ?_⟩
  · have hf : h.objs.size ∉ c.fr := fun z => Nat.lt_irrefl _ (S.lt _ (ok.frX _ z))
    exact (Heap.DictOf.new h).at fun o e => k2.2.1 _ o hf e
  · have e : merged [] ks = ks := merged_nodup ks [] (by rw [List.nil_append, kv.keys]; exact hn)
    rw [e] at hd
    have kk : Kp c.fr h h' := by
      have k12 := kp.trans k2
      have nw : ∀ a o, h.get? a = some o → a ≠ h.objs.size := fun a o e => Nat.ne_of_lt (Heap.lt_size e)
      refine ⟨fun a ⟨o, q, n⟩ => ?_, fun a o n q => (hs.2 a (nw a o q)).trans (k12.2.1 a o n q), fun a o q => ?_⟩
      · obtain ⟨o', q', n'⟩ := k12.1 a ⟨o, q, n⟩
        exact ⟨o', (hs.2 a (nw a o q)).trans q', n'⟩
      · obtain ⟨sl, q'⟩ := k12.2.2 a o q
        exact ⟨sl, (hs.2 a (nw a o q)).trans q'⟩
    exact k h' _ _ ks kk (new_none h) (fun z => Nat.lt_irrefl _ (S.lt _ z)) (beq_eq_false_iff_ne.mpr fun z => by have := modules_low (S.gr ok).nolimit; rw [← z] at this; exact Nat.lt_irrefl _ this) hd kv
theorem ev_dict {keys vals pos kvs} (ok : c.Ok lev) (h1 : EpJ c ρ keys vals pos kvs) (hn : (kvs.map (·.1)).Nodup) (hall : keys.all (·.isSome) = true) (hl : keys.length = vals.length) (h0 : keys ≠ []) (hlen : keys.length ≤ 15) :
    EvJ c ρ (.Dict keys vals pos) (.dict c.gd.w kvs) := fun h tk Q E S k =>
  dict_new ok h1 hn hall hl h0 hlen S fun h' tk' d vs kp _ hd ns dd kv => by
    obtain ⟨o, e, r⟩ := dict_o dd
    refine k h' tk' _ kp (.dict ?_ ns r kv)
    unfold vw
    rw [if_neg hd]
    exact e
theorem ie_items {elts : List Expr} {nn : Nat} {tp ap cp : Pos} {e : Expr} {pl : Sem Bool} {kvs : List (Str × Int)} (ok : c.Ok lev) (h1 : EvJ c ρ e (.dict c.gd.w kvs))
    (he : eval (.Call (.Attribute e "items" ap) [] [] cp) c.env = (do
      let ov ← eval e c.env
      standAt ap.atName
      let (f, first) ← holding [ov] (getMethod ov "items" pl)
      callWith cp f first (backTo cp (starEach [] c.env)) [])) : IeJ c ρ (.Tuple elts nn tp) (.Call (.Attribute e "items" ap) [] [] cp) kvs.length (fun i => match kvs[i]? with | some (k, n) => .tup [.str k, .int n] | none => .none) := fun h tk Q E S k => by
  refine MethodCall_ (h1 h tk _ _ S fun h1' tk1 v k1 r1 => ?_) he
  have S1 := S.kp ok k1
  cases r1 with
  | @dict w a o vs kvs q1 ns q2 q3 =>
  have aX := vw_not q1
  have hD := o_dict (vw_ge q1) q2
  have hlt : a < h1'.objs.size := Heap.lt_size (vw_ge q1)
  refine getMethod_builtin (s := c.sh h1' tk1) hD.typeIs PySem.F.plainAttrs_dict PySem.F.slot_dict_items PySem.F.type_dict_items hD.mapOf.noDict ?_
  refine callWith_method0 (call_meetsIn PySem.F.slot_dict_items hD.typeIs PySem.F.entry_dict_items (PySem.F.args_dict_items_1 _) (meets_dict_items (strKind _ _) a ns) ⟨⟨_, hD⟩, ?_⟩)
  have kp : ∀ {h : Heap} o, Kp c.fr h (h.push o) := fun o => Kp.push _
  obtain ⟨ep, hA⟩ := (hD.push { cls := .type "dict_items", data := .fields #[.ref a] }).dictAt
  have S2 := S1.kp ok (kp { cls := .type "dict_items", data := .fields #[.ref a] })
  refine wpAny_pyIter_items (s := c.sh _ tk1) ⟨_, Heap.get?_push_size _ rfl, rfl, rfl⟩ hA ?_
  generalize hH : h1'.push { cls := .type "dict_items", data := .fields #[.ref a] } = H2 at hA S2 ⊢
  have k2 : Kp c.fr h H2 := k1.trans (hH ▸ kp _)
  have hlt2 : a < H2.objs.size := by rw [← hH, Heap.size_push]; exact Nat.lt_succ_of_lt hlt
  have vlen := q3.len
  refine k _ tk1 H2.objs.size (fun i h => (∃ ok ov, IsItemIter h H2.objs.size a i vs.length ep ok ov) ∧ h.DictAt (strKind PG c.gd.w) a vs ep) (k2.trans (kp _)) (none_back k2 (new_none _)) ⟨_, Heap.get?_push_size _ rfl⟩ ?_ ?_
  · refine ⟨fun i h h' I kk => ?_, fun i h tk Q E hin I hx kq => ?_, fun h tk Q E I kq => ?_⟩
    · have hit : H2.objs.size ∉ c.fr ∧ H2.objs.size ∉ c.own := ⟨fun z => Nat.lt_irrefl _ (fr_lt S2 _ (.inl z)), fun z => Nat.lt_irrefl _ (fr_lt S2 _ (.inr z))⟩
      obtain ⟨⟨o1, o2, q⟩, qa⟩ := I
      exact ⟨⟨o1, o2, kk.2.1 _ _ hit.1 hit.2 q⟩, qa.at fun o e => kk.2.1 _ o (fun z => aX (ok.frX _ z)) (fun z => aX (ok.ownX _ z)) e⟩
    · obtain ⟨⟨o1, o2, q⟩, qa⟩ := I
      obtain ⟨k0, n0, hkn⟩ : ∃ k0 n0, kvs[i]? = some (k0, n0) := ⟨_, _, List.getElem?_eq_getElem hin⟩
      obtain ⟨t0, hv0⟩ := q3.get i k0 n0 hkn
      refine wpAny_pyNext_items_item (s := c.sh h tk) q qa hv0 fun key h' hk ho ht hz kb => ⟨_, rfl, ?_⟩
      refine wpAny_letOwnedTupleGo_items (s := c.sh h' tk) ho fun h2 hi2 hs2 => ?_
      have kb2 : ∀ b o, b ≠ H2.objs.size → h.get? b = some o → h2.get? b = some o := fun b o n e => (hs2.2 b n).trans (kb b o n e)
      have nt : h.objs.size ≠ H2.objs.size := fun z => by
        have := Heap.lt_size q
        rw [z] at this; exact Nat.lt_irrefl _ this
      refine kq h2 tk _ kb2 ⟨_, hi2⟩ ⟨⟨_, _, hi2⟩, qa.at fun o e => kb2 _ o (Nat.ne_of_lt hlt2) e⟩ ?_
      rw [hkn]
      have hkey : ∃ t, key = .str k0 t := by
        obtain ⟨t, e⟩ := Value.isStrOf_shape hk
        exact ⟨t, e⟩
      obtain ⟨t, rfl⟩ := hkey
      refine .tup (vs := [.str k0 t, .int n0 t0]) (o := { cls := .type "tuple", data := .seq #[.str k0 t, .int n0 t0] }) ?_ rfl rfl (.cons .str (.cons .int .nil))
      unfold vw
      rw [if_neg (show ¬ h.objs.size ∈ (c.hide H2.objs.size).X from fun z => by obtain ⟨o, e⟩ := hx _ z; exact Nat.lt_irrefl _ (Heap.lt_size e))]
      exact (hs2.2 _ nt).trans ht
    · obtain ⟨⟨o1, o2, q⟩, qa⟩ := I
      refine wpAny_pyNext_items_end (s := c.sh h tk) (show c.B.handled = none from ok.hand) (i := kvs.length) q qa (by simp [vlen]) fun h' he' => ⟨rfl, kq h' tk fun b o n e => he' b o n e⟩
  · exact ⟨⟨.none, .none, Heap.get?_push_size _ rfl⟩, hA.push _⟩
end
noncomputable def avIs : Value → AV → Bool | .int n _, .int m => n == m | .str s _, .str s' => s == s' | _, _ => false
noncomputable def avsIs : List Value → List AV → Bool | [], [] => true | v :: vs, a :: as => avIs v a && avsIs vs as | _, _ => false
noncomputable def tupIs (K : Frag) (a : Addr) (as : List AV) : Bool := match K.lookup a with | some ⟨.type "tuple", _, .seq vs _, _⟩ => avsIs vs.toList as | _ => false
theorem avIs_rep {V : View} : ∀ {v a}, avIs v a = true → Rep V v a := fun {v a} h => by
  cases v <;> cases a <;> simp only [avIs] at h <;> first | (rw [beq_iff_eq.mp h]; constructor) | cases h
theorem avsIs_rep {V : View} : ∀ {vs as}, avsIs vs as = true → Reps V vs as
  | [], [], _ => .nil
  | v :: vs, a :: as, h => by
    unfold avsIs at h
    rw [Bool.and_eq_true] at h
    exact .cons (avIs_rep h.1) (avsIs_rep h.2)
  | [], _ :: _, h => by cases h
  | _ :: _, [], h => by cases h
theorem tupIs_of {K : Frag} {a as} (h : tupIs K a as = true) : ∃ o vs n, K.lookup a = some o ∧ o.cls = .type "tuple" ∧ o.data = .seq (List.toArray vs) n ∧ avsIs vs as = true := by
  unfold tupIs at h
  split at h
  · rename_i dd vs n sl e
    exact ⟨_, vs.toList, n, e, rfl, by simp, h⟩
  · cases h
section
variable {c : Cx} {lev : Nat} {ρ : Loc}
theorem ev_tupK {e : Expr} {a : Addr} {as : List AV} (ok : c.Ok lev) (h1 : EvJ c ρ e (.glob (.ref a))) (h : tupIs (KK c.gd.w.params) a as = true) : EvJ c ρ e (.tup as) := fun hp tk Q E S k =>
  h1 hp tk _ _ S fun h' tk' v k1 r1 => by
    obtain rfl := r1.i
    obtain ⟨o, vs, n, e1, e2, e3, e4⟩ := tupIs_of h
    have hx := ok.gr.kx _ _ e1
    refine k h' tk' _ k1 (.tup ?_ e2 e3 (avsIs_rep e4))
    unfold vw
    rw [if_neg (ok.hX _ _ hx)]
    exact ((S.kp ok k1).gr ok).kx _ _ e1
theorem St.weak {ρ' : Loc} {h : Heap} (S : St c ρ h) (w : ∀ x a, ρ'.lookup x = some a → ρ.lookup x = some a) : St c ρ' h :=
  ⟨let ⟨m, n, r⟩ := S.ns; ⟨m, n, fun x a e => r x a (w x a e)⟩, S.keep, S.frs, S.xlt, S.oth, fun x a oc e => S.own x a oc (w x _ e)⟩
theorem bl_weak {ρ' ρ2 : Loc} {ss} (h : BlJ c ρ ss (.nxt ρ')) (w : ∀ x a, ρ2.lookup x = some a → ρ'.lookup x = some a) : BlJ c ρ ss (.nxt ρ2) := fun hp tk Q E S k =>
  h hp tk Q E S fun h' tk' kk S' => k h' tk' kk (S'.weak w)
theorem bl_one {s out} (h : SmJ c ρ s out) : BlJ c ρ [s] out := by
  cases out with
  | nxt ρ' => exact bl_cons h bl_nil
  | ret a σ => exact bl_ret h
  | exc C => exact bl_exc h
theorem bl_raiseif {t : Expr} {b : Bool} {body p ss out out2} (ok : c.Ok lev) (h0 : TsJ c ρ t b) (ho : out = if b = true then .exc 45 else out2) (h1 : b = true → BlJ c ρ body (.exc 45)) (h2 : b = false → BlJ c ρ ss out2) : BlJ c ρ (.If t body [] p :: ss) out := by
  cases b
  · subst ho; exact bl_if ok h0 (fun h => nomatch h) (fun h => nomatch h) (fun _ => h2 rfl)
  · subst ho; exact bl_if ok h0 (fun _ => rfl) (fun _ => h1 rfl) (fun h => nomatch h)
theorem ca_isint {n : Int} : CaJ c (.builtin "isinstance") [.int n, .glob (.type "int")] (.bool true) := fun ρ h tk Q E vs S rs k => by
  replace rs := rs.i; obtain ⟨_, _, rfl, r, rs⟩ := rs
  replace rs := rs.i; obtain ⟨_, _, rfl, r', rs⟩ := rs
  obtain rfl := rs.i
  obtain ⟨_, rfl⟩ := r.i; obtain rfl := r'.i
  exact call_isinstance_yes (typeIs_int _ _ _) meta_int (by rw [isSubtype_type]; kernel_rfl) (k _ _ _ .refl .bool)
theorem ca_isbool {n : Int} : CaJ c (.builtin "isinstance") [.int n, .glob (.type "bool")] (.bool false) := fun ρ h tk Q E vs S rs k => by
  replace rs := rs.i; obtain ⟨_, _, rfl, r, rs⟩ := rs
  replace rs := rs.i; obtain ⟨_, _, rfl, r', rs⟩ := rs
  obtain rfl := rs.i
  obtain ⟨_, rfl⟩ := r.i; obtain rfl := r'.i
  exact call_isinstance (isinstance_false_int (by decide) (by kernel_rfl) (by rw [isSubtype_type]; kernel_rfl)) (k _ _ _ .refl .bool)
end
structure KR where
  kind : Str
  used : List Str
  ua : Addr
  rng : Option (Addr × Int × Int × Int)
noncomputable def KD : List KR := [
  ⟨sO "R", [sO "rd", sO "rs1", sO "rs2"], 992, none⟩,
  ⟨sO "I", [sO "rd", sO "rs1", sO "imm"], 993, some (1005, -2048, 2047, 1)⟩,
  ⟨sO "S", [sO "rs1", sO "rs2", sO "imm"], 994, some (1006, -2048, 2047, 1)⟩,
  ⟨sO "B", [sO "rs1", sO "rs2", sO "imm"], 995, some (1007, -4096, 4094, 2)⟩,
  ⟨sO "U", [sO "rd", sO "imm"], 996, some (1008, 0, 1048575, 1)⟩,
  ⟨sO "J", [sO "rd", sO "imm"], 997, some (1009, -1048576, 1048574, 2)⟩,
  ⟨sO "shift", [sO "rd", sO "rs1", sO "imm"], 998, some (1010, 0, 31, 1)⟩,
  ⟨sO "fence", [sO "rd", sO "rs1", sO "imm"], 999, some (1011, 0, 4095, 1)⟩,
  ⟨sO "CSR", [sO "rd", sO "rs1", sO "csr"], 1000, none⟩,
  ⟨sO "CSRI", [sO "rd", sO "imm", sO "csr"], 1001, some (1012, 0, 31, 1)⟩,
  ⟨sO "flush", [sO "rs1", sO "rs2"], 1002, none⟩,
  ⟨sO "system", [], 1003, none⟩]
noncomputable def usedT : List (Str × Value) := KD.map fun r => (r.kind, .ref r.ua)
noncomputable def rngT : List (Str × Value) := KD.filterMap fun r => r.rng.map fun q => (r.kind, .ref q.1)
theorem ds_used (w : World) : DS w (KK w.params) 991 usedT := ⟨by kernel_rfl, by kernel_rfl, by decide +kernel, by kernel_rfl⟩
theorem ds_rng (w : World) : DS w (KK w.params) 1004 rngT := ⟨by kernel_rfl, by kernel_rfl, by decide +kernel, by kernel_rfl⟩
noncomputable def krOk (K : Frag) (r : KR) : Bool := tupIs K r.ua (r.used.map .str) && (match r.rng with | some (a, lo, hi, st) => tupIs K a [.int lo, .int hi, .int st] | none => true)
theorem KD_ok (P : Params) : KD.all (krOk (KK P)) = true := by kernel_rfl
noncomputable def krPlain (r : KR) : Bool := (valueAt usedT r.kind == some (.ref r.ua)) && (valueAt rngT r.kind == r.rng.map fun q => .ref q.1) && PyData.canLayAll0 ((r.used.map AV.str).map toPD) && (!(r.used.any (· == sO "imm")) || r.rng.isSome) && (match r.rng with | some (_, lo, hi, st) => decide (0 < st) | none => true)
theorem KD_plain : KD.all krPlain = true := by decide +kernel
noncomputable def okField (r : KR) (name : Str) (n : Int) : Bool :=
  if r.used.any (· == name) then
    (if name == sO "imm" then (match r.rng with | some (_, lo, hi, st) => (decide (lo ≤ n) && decide (n ≤ hi)) && !(n.fmod st != 0) | none => false)
     else decide (0 ≤ n) && decide (n < if name == sO "csr" then 4096 else 32))
  else !(n != 0)
noncomputable abbrev insF (i : Ins) : List (Str × Int) := [(sO "rd", i.rd), (sO "rs1", i.rs1), (sO "rs2", i.rs2), (sO "imm", i.imm), (sO "csr", i.csr)]
noncomputable def checkF (r : KR) (i : Ins) : Bool := (insF i).all fun p => okField r p.1 p.2
theorem gl_used (P : Params) : nsIn (KK P) mainGlobals (Str.ofString "USED") = some (some (.ref 991)) := by kernel_rfl
theorem gl_rng (P : Params) : nsIn (KK P) mainGlobals (Str.ofString "RANGES") = some (some (.ref 1004)) := by kernel_rfl
theorem gl_isi (P : Params) : nsIn (KK P) mainGlobals (Str.ofString "isinstance") = some none := by kernel_rfl
theorem gl_int (P : Params) : nsIn (KK P) mainGlobals (Str.ofString "int") = some none := by kernel_rfl
theorem gl_bool (P : Params) : nsIn (KK P) mainGlobals (Str.ofString "bool") = some none := by kernel_rfl
local macro_rules | `(tactic| walk_at "ev") => `(tactic| first
  | ((with_reducible refine' ev_neg ?l); (case l => walk_at "ev")))
local macro_rules | `(tactic| walk_at "op") => `(tactic| first
  | with_reducible exact op_nei
  | with_reducible exact op_gt
  | with_reducible exact op_ge
  | with_reducible exact op_le
  | with_reducible exact op_nes
  | ((with_reducible refine' op_mod ?_); first | decide | assumption))
section
theorem wk_nil {ρ : Loc} : ∀ x a, ρ.lookup x = some a → ρ.lookup x = some a := fun _ _ e => e
theorem wk_cons {ρ0 ρ : Loc} {y : Str} {b : AV} (n : ρ0.lookup y = none) (w : ∀ x a, ρ0.lookup x = some a → ρ.lookup x = some a) : ∀ x a, ρ0.lookup x = some a → ((y, b) :: ρ).lookup x = some a := fun x a e => by
  rw [List.lookup_cons]
  split
  · rename_i q; rw [beq_iff_eq.mp q, n] at e; cases e
  · exact w x a e
noncomputable def forBody : Stmt → List Stmt | .For _ _ b _ _ => b | _ => []
theorem lk2 {x y z : Str} {a b : AV} {l : Loc} {v : AV} (h1 : (x == y) = false) (h2 : (x == z) = false) (h : l.lookup x = some v) : List.lookup x ((y, a) :: (z, b) :: l) = some v := lk_next h1 (lk_next h2 h)
theorem ev_lk {c : Cx} {lev : Nat} {ρ : Loc} {x : Str} {p : Pos} {a : AV} {sc : Scope} (ok : c.Ok lev) (hs : c.scope = sc) (hl : ρ.lookup x = some a) (hx : sc.names.lookup x = some .local) (hd : (x == ("__debug__" : Str)) = false) : EvJ c ρ (.Name x p) a :=
  ev_name hl ok.kind (kd hs hx) hd
theorem chk_body {c : Cx} {lev} (ok : c.Ok (lev + 4)) (hs : c.scope = fnScope (astAt 26)) (r : KR) (hr : r ∈ KD) (name : Str) (hn : (PyData.str name).canLay0 = true) (n : Int) (ρ0 : Loc) (lu : ρ0.lookup (Str.ofString "used") = some (.tup (r.used.map .str))) (lk : ρ0.lookup (Str.ofString "kind") = some (.str r.kind))
    (n1 : ρ0.lookup (sO "name") = none) (n2 : ρ0.lookup (sO "number") = none) (n3 : ρ0.lookup (sO "least") = none) (n4 : ρ0.lookup (sO "greatest") = none) (n5 : ρ0.lookup (sO "step") = none) :
    BlJ c ((sO "number", .int n) :: (sO "name", .str name) :: ρ0) (forBody (nthSt (fnBody (astAt 26)) 2)) (if okField r name n then .nxt ρ0 else .exc 45) := by
  have hok := List.all_eq_true.mp (KD_ok c.gd.w.params) r hr
  unfold krOk at hok
  rw [Bool.and_eq_true] at hok
  have hpl := List.all_eq_true.mp KD_plain r hr
  unfold krPlain at hpl
  simp only [Bool.and_eq_true] at hpl
  obtain ⟨⟨⟨⟨p1, p2⟩, p3⟩, p4⟩, p5⟩ := hpl
  have w2 : ∀ x a, ρ0.lookup x = some a → ((sO "number", AV.int n) :: (sO "name", AV.str name) :: ρ0).lookup x = some a := wk_cons n2 (wk_cons n1 wk_nil)
  refine' bl_raiseif ok (b := false) ?t rfl (fun h => nomatch h) (fun _ => ?x)
  case t =>
    refine' ts_eq (a := (!true) || (false || false)) (ts_boolop (ta_or ok (ts_not (ts_bool ?t1 rfl)) (fun _ => ta_or ok (ts_bool ?t2 rfl) (fun _ => ta_or_nil)))) rfl
    case t1 =>
      refine' ev_callB ok (ev_builtin ok (gl_isi _) (by decide +kernel) ok.kind (kd hs (by kernel_rfl)) (by decide +kernel) (by kernel_rfl)) ?a1 ca_isint rfl rfl rfl
      case a1 => exact evs_cons ok (by walk_at "ev") (evs_cons ok (ev_builtin ok (gl_int _) (by decide +kernel) ok.kind (kd hs (by kernel_rfl)) (by decide +kernel) (by kernel_rfl)) evs_nil rfl) rfl
    case t2 =>
      refine' ev_callB ok (ev_builtin ok (gl_isi _) (by decide +kernel) ok.kind (kd hs (by kernel_rfl)) (by decide +kernel) (by kernel_rfl)) ?a2 ca_isbool rfl rfl rfl
      case a2 => exact evs_cons ok (by walk_at "ev") (evs_cons ok (ev_builtin ok (gl_bool _) (by decide +kernel) ok.kind (kd hs (by kernel_rfl)) (by decide +kernel) (by kernel_rfl)) evs_nil rfl) rfl
  case x =>
  refine' bl_one (sm_if ok (b := !r.used.any (· == name)) ?t3 ?x3 ?y3)
  case t3 => exact ts_cmp ok (by walk_at "ev") (ev_lk ok hs (lk2 (by kernel_rfl) (by kernel_rfl) lu) (by kernel_rfl) (by kernel_rfl)) (op_notinT ok p3 hn) rfl
  case x3 =>
    intro hu
    have hu' : r.used.any (· == name) = false := by simpa using hu
    refine' bl_raiseif ok (b := n != 0) (out2 := .nxt ρ0) ?t4 ?o4 ?x4 ?y4
    case t4 => walk_at "ts"
    case o4 => unfold okField; rw [hu', if_neg (by decide)]; cases (n != 0) <;> rfl
    case x4 => exact fun _ => bl_exc (sm_raise45 (lev := lev + 1) ok (kd hs (by kernel_rfl)) ev_str rfl rfl)
    case y4 => exact fun _ => bl_weak bl_nil w2
  case y3 =>
    intro hu
    have hu' : r.used.any (· == name) = true := by simpa using hu
    refine' bl_one (sm_if ok (b := name == sO "imm") ?t5 ?x5 ?y5)
    case t5 => walk_at "tsq"
    case x5 =>
      intro hi
      have hi' : name = sO "imm" := beq_iff_eq.mp hi
      rw [← hi', hu'] at p4
      have p4' : r.rng.isSome = true := by simpa using p4
      obtain ⟨⟨a, lo, hi2, st⟩, hrng⟩ := Option.isSome_iff_exists.mp p4'
      have hk2 := hok.2
      rw [hrng] at p5 hk2 p2
      have hst : st ≠ 0 := by have q : 0 < st := of_decide_eq_true p5; omega
      have hv := beq_iff_eq.mp p2
      refine' bl_cons (sm_tup (as := [.int lo, .int hi2, .int st]) (xs := [sO "least", sO "greatest", sO "step"]) (ρ' := (sO "step", .int st) :: (sO "greatest", .int hi2) :: (sO "least", .int lo) :: (sO "number", .int n) :: (sO "name", .str name) :: ρ0) ok ?v6 ?s6 rfl rfl rfl rfl rfl rfl) ?d6
      case v6 => exact ev_tupK ok (ev_sub ok (ev_global ok (gl_rng _) ok.kind (kd hs (by kernel_rfl)) (by kernel_rfl)) (ev_lk ok hs (lk2 (by kernel_rfl) (by kernel_rfl) lk) (by kernel_rfl) (by kernel_rfl)) (sb_DS ok (ds_rng _) hv (fun _ _ => rfl))) hk2
      case s6 => exact .cons (sto_name (kd hs (by kernel_rfl))) (.cons (sto_name (kd hs (by kernel_rfl))) (.cons (sto_name (kd hs (by kernel_rfl))) .nil))
      case d6 =>
      refine' bl_raiseif ok (b := !(decide (lo ≤ n) && decide (n ≤ hi2)) || (n.fmod st != 0 || false)) (out2 := .nxt ρ0) ?t7 ?o7 ?x7 ?y7
      case t7 =>
        refine' ts_boolop (ta_or ok (ts_not (ts_chain ok ?l1 ?l2 ?l3 op_le op_le rfl)) (fun _ => ta_or ok ?l4 (fun _ => ta_or_nil)))
        case l1 => walk_at "ev"
        case l2 => walk_at "ev"
        case l3 => walk_at "ev"
        case l4 => walk_at "ts"
      case o7 =>
        unfold okField
        rw [hu', if_pos rfl, if_pos hi, hrng, Bool.or_false]
        show (if (_ && _) = true then _ else _) = _
        cases (decide (lo ≤ n) && decide (n ≤ hi2)) <;> cases (n.fmod st != 0) <;> rfl
      case x7 => exact fun _ => bl_exc (sm_raise45 (lev := lev + 1) ok (kd hs (by kernel_rfl)) ev_str rfl rfl)
      case y7 => exact fun _ => bl_weak bl_nil (wk_cons n5 (wk_cons n4 (wk_cons n3 w2)))
    case y5 =>
      intro hi
      refine' bl_raiseif ok (b := !(decide (0 ≤ n) && decide (n < if name == sO "csr" then 4096 else 32))) (out2 := .nxt ρ0) ?t8 ?o8 ?x8 ?y8
      case t8 =>
        refine' ts_not (ts_chain ok ?l1 ?l2 ?l3 op_le op_lt rfl)
        case l1 => walk_at "ev"
        case l2 => walk_at "ev"
        case l3 =>
          refine' ev_if ok (b := name == sO "csr") ?i1 ?i2 ?i3
          case i1 => walk_at "tsq"
          case i2 => intro h; rw [if_pos h]; exact ev_int
          case i3 => intro h; rw [if_neg (by rw [h]; decide)]; exact ev_int
      case o8 =>
        unfold okField
        rw [hu', if_pos rfl, if_neg (by rw [hi]; decide)]
        generalize (decide (0 ≤ n) && decide (n < if (name == sO "csr") = true then 4096 else 32)) = b
        cases b <;> rfl
      case x8 => exact fun _ => bl_exc (sm_raise45 (lev := lev + 1) ok (kd hs (by kernel_rfl)) ev_str rfl rfl)
      case y8 => exact fun _ => bl_weak bl_nil w2
end
noncomputable def insK (kvs : List (Str × Int)) (ρ0 : Loc) (i : Nat) : Loc := match kvs[i]? with | some (k, n) => (sO "number", .int n) :: (sO "name", .str k) :: ρ0 | none => ρ0
theorem names_lay : (insF ⟨sO "", 0, 0, 0, 0, 0⟩).all (fun p => (PyData.str p.1).canLay0) = true := by decide +kernel
theorem nd5 : [sO "rd", sO "rs1", sO "rs2", sO "imm", sO "csr"].Nodup := by decide +kernel
theorem insF_nd {i : Ins} : ((insF i).map (·.1)).Nodup := nd5
theorem insF_names (i : Ins) : (insF i).all (fun p => (PyData.str p.1).canLay0) = true := names_lay
section
theorem chk_all {c : Cx} {lev} (ok : c.Ok (lev + 4)) (hs : c.scope = fnScope (astAt 26)) (r : KR) (hr : r ∈ KD) (i : Ins) :
    BlJ c [(sO "kind", .str r.kind), (sO "instruction", i.av)] (fnBody (astAt 26)) (if checkF r i then .nxt [(sO "numbers", .dict c.gd.w (insF i)), (sO "used", .tup (r.used.map .str)), (sO "kind", .str r.kind), (sO "instruction", i.av)] else .exc 45) := by
  have hok := List.all_eq_true.mp (KD_ok c.gd.w.params) r hr
  unfold krOk at hok
  rw [Bool.and_eq_true] at hok
  have hpl := List.all_eq_true.mp KD_plain r hr
  unfold krPlain at hpl
  simp only [Bool.and_eq_true] at hpl
  obtain ⟨⟨⟨⟨p1, p2⟩, p3⟩, p4⟩, p5⟩ := hpl
  refine' bl_cons (sm_assign (a := .tup (r.used.map .str)) ok ?va ?vb rfl rfl) ?vd
  case va => exact ev_tupK ok (ev_sub ok (ev_global ok (gl_used _) ok.kind (kd hs (by kernel_rfl)) (by kernel_rfl)) (by walk_at "ev") (sb_DS ok (ds_used _) (beq_iff_eq.mp p1) (fun _ _ => rfl))) hok.1
  case vb => exact kd hs (by kernel_rfl)
  case vd =>
  refine' bl_cons (sm_assign (a := .dict c.gd.w (insF i)) ok ?a1 ?b1 rfl rfl) ?d1
  case a1 =>
    refine' ev_dict ok (ep_cons ok ?e1 (ep_cons ok ?e2 (ep_cons ok ?e3 (ep_cons ok ?e4 (ep_cons ok ?e5 ep_nil))))) insF_nd rfl rfl (by simp) (by simp)
    case e1 => walk_at "ev"
    case e2 => walk_at "ev"
    case e3 => walk_at "ev"
    case e4 => walk_at "ev"
    case e5 => walk_at "ev"
  case b1 => exact kd hs (by kernel_rfl)
  case d1 =>
  generalize hρ : (sO "numbers", AV.dict c.gd.w (insF i)) :: (sO "used", .tup (r.used.map .str)) :: (sO "kind", .str r.kind) :: [(sO "instruction", i.av)] = ρ0
  have q0 : ρ0.lookup (Str.ofString "numbers") = some (.dict c.gd.w (insF i)) := by rw [← hρ]; exact lk_here
  have q1 : ρ0.lookup (Str.ofString "used") = some (.tup (r.used.map .str)) := by rw [← hρ]; walk_at "lk"
  have q2 : ρ0.lookup (Str.ofString "kind") = some (.str r.kind) := by rw [← hρ]; walk_at "lk"
  have q3 : ρ0.lookup (sO "name") = none ∧ ρ0.lookup (sO "number") = none ∧ ρ0.lookup (sO "least") = none ∧ ρ0.lookup (sO "greatest") = none ∧ ρ0.lookup (sO "step") = none := by rw [← hρ]; exact ⟨by kernel_rfl, by kernel_rfl, by kernel_rfl, by kernel_rfl, by kernel_rfl⟩
  have hlay := insF_names i
  have hcf : checkF r i = (insF i).all fun p => okField r p.1 p.2 := rfl
  rw [hcf]
  generalize hkv : insF i = kvs at q0 hlay ⊢
  clear hkv hcf
  generalize hm : kvs.findIdx (fun p => !okField r p.1 p.2) = m
  have hle : m ≤ kvs.length := hm ▸ List.findIdx_le_length
  have hbody : ∀ c1, Like c c1 (lev + 4) → ∀ j k n, kvs[j]? = some (k, n) → BlJ c1 ((sO "number", .int n) :: (sO "name", .str k) :: ρ0) (forBody (nthSt (fnBody (astAt 26)) 2)) (if okField r k n then .nxt ρ0 else .exc 45) := fun c1 L j k n e =>
    chk_body L.ok (L.scope.trans hs) r hr k (List.all_eq_true.mp hlay _ (List.mem_of_getElem? e)) n ρ0 q1 q2 q3.1 q3.2.1 q3.2.2.1 q3.2.2.2.1 q3.2.2.2.2
  refine' bl_one (sm_for (J := fun _ => ρ0) (K := insK kvs ρ0) (m := m) ok (fun _ => rfl) (ie_items ok ?it rfl) rfl ?ht ?hb hle ?he ?hz)
  case it => exact ev_lk ok hs q0 (by kernel_rfl) (by kernel_rfl)
  case ht =>
    intro c1 L j hj _
    obtain ⟨k, n, e⟩ : ∃ k n, kvs[j]? = some (k, n) := ⟨_, _, List.getElem?_eq_getElem hj⟩
    unfold insK
    rw [e]
    exact as_tup (xs := [sO "name", sO "number"]) L.ok (.cons (sto_name (kd (L.scope.trans hs) (by kernel_rfl))) (.cons (sto_name (kd (L.scope.trans hs) (by kernel_rfl))) .nil)) rfl rfl rfl rfl
  case hb =>
    intro c1 L j hj
    have hj' : j < kvs.length := Nat.lt_of_lt_of_le hj hle
    obtain ⟨k, n, e⟩ : ∃ k n, kvs[j]? = some (k, n) := ⟨_, _, List.getElem?_eq_getElem hj'⟩
    have hb := hbody c1 L j k n e
    have hok : okField r k n = true := by
      have hj2 : j < kvs.findIdx (fun p => !okField r p.1 p.2) := by rw [hm]; exact hj
      have := List.not_of_lt_findIdx hj2
      have e' : kvs[j] = (k, n) := by rw [List.getElem?_eq_getElem hj'] at e; exact Option.some.inj e
      rw [e'] at this
      simpa using this
    rw [if_pos hok] at hb
    unfold insK
    rw [e]
    exact hb
  case he =>
    intro hj
    obtain ⟨k, n, e⟩ : ∃ k n, kvs[m]? = some (k, n) := ⟨_, _, List.getElem?_eq_getElem hj⟩
    have hbad : okField r k n = false := by
      have hj2 : kvs.findIdx (fun p => !okField r p.1 p.2) < kvs.length := by rw [hm]; exact hj
      have := List.findIdx_getElem (w := hj2)
      have e' : kvs[kvs.findIdx (fun p => !okField r p.1 p.2)]? = some (k, n) := by rw [hm]; exact e
      rw [List.getElem?_eq_getElem hj2] at e'
      rw [Option.some.inj e'] at this
      simpa using this
    have hall : (kvs.all fun p => okField r p.1 p.2) = false := by
      cases q : kvs.all fun p => okField r p.1 p.2 with
      | false => rfl
      | true => have := List.all_eq_true.mp q _ (List.mem_of_getElem? e); rw [hbad] at this; cases this
    rw [hall]
    refine ⟨rfl, fun c1 L => ?_⟩
    have hb := hbody c1 L m k n e
    rw [hbad] at hb
    unfold insK
    rw [e]
    exact hb
  case hz =>
    intro hj
    have hall : (kvs.all fun p => okField r p.1 p.2) = true := by
      rw [List.all_eq_true]
      intro p hp
      have := List.findIdx_eq_length.mp (hm.trans hj) p hp
      simpa using this
    rw [if_pos hall]
end
theorem con_check (gd : Gd) (lev : Nat) (r : KR) (hr : r ∈ KD) (i : Ins) : Con gd (lev + 5) (.ref 1031) [i.av, .str r.kind] (if checkF r i then .ok .none else .exc 45) := by
  have := con_fn (gd := gd) (lev := lev + 4) (as := [i.av, .str r.kind]) (out := if checkF r i then .nxt [(sO "numbers", .dict gd.w (insF i)), (sO "used", .tup (r.used.map .str)), (sO "kind", .str r.kind), (sO "instruction", i.av)] else .exc 45) [sO "instruction", sO "kind"] (show (KK gd.w.params).lookup 1031 = some (o1031 gd.w.params) by kernel_rfl) (by kernel_rfl)
    (fun s vs hl _ => by obtain ⟨a0, a1, rfl⟩ := len2 hl; exact .of_eq (by kernel_rfl)) (by decide +kernel)
    (fun c hg ok hs hn => by subst hg; exact chk_all ok hs r hr i) (by kernel_rfl) (by kernel_rfl) (by kernel_rfl) (by decide +kernel)
  revert this
  cases checkF r i <;> exact id
noncomputable def methK (K : Frag) (x C f : Addr) (name : Str) : Bool := match K.lookup x with
  | some ⟨.ref C', some dx, .plain, sl⟩ => (match K.lookup dx with
      | some od => C' == C && notCls ⟨.ref C, some dx, .plain, sl⟩ && (shadowIn (some od) name == some false)
      | none => false)
  | _ => false
theorem methK_of {K : Frag} {x C f : Addr} {name : Str} {h : Heap} (X : K.In h) (e : methK K x C f name = true) : ∃ ox od, InstAt h x ox C (some od) ∧ shadowIn (some od) name = some false := by
  unfold methK at e
  split at e
  · rename_i C' dx sl hx
    split at e
    · rename_i od hd
      rw [Bool.and_eq_true, Bool.and_eq_true] at e
      obtain ⟨⟨e1, e2⟩, e3⟩ := e
      rw [beq_iff_eq] at e1
      subst e1
      exact ⟨_, od, ⟨X _ _ hx, rfl, e2, X _ _ hd⟩, beq_iff_eq.mp e3⟩
    · cases e
  · cases e
theorem SH_meth (P : Params) : SH.all (fun r => methK (KK P) r.addr 120 117 (sO "fixed")) = true := by kernel_rfl
section
variable {c : Cx} {lev : Nat} {ρ : Loc}
theorem ev_fixed {o : Expr} {apos pos : Pos} {pl : Sem Bool} {r : SR} (hr : r ∈ SH) (ok : c.Ok (lev + 2)) (h1 : EvJ c ρ o (.glob (srV r)))
    (he : eval (.Call (.Attribute o (Str.ofString "fixed") apos) [] [] pos) c.env = (do
      let ov ← eval o c.env
      standAt apos.atName
      let (f, first) ← holding [ov] (getMethod ov (Str.ofString "fixed") pl)
      callWith pos f first (backTo pos (starEach [] c.env)) [])) : EvJ c ρ (.Call (.Attribute o (Str.ofString "fixed") apos) [] [] pos) (.int r.fixed) := fun h tk Q E S kq => by
  refine MethodCall_ (h1 h tk _ _ S fun h' tk' v k1 r1 => ?_) he
  have S1 := S.kp ok k1
  obtain rfl := r1.i
  have X := (S1.gr ok).kx
  obtain ⟨ox, od, I, sh⟩ := methK_of X (List.all_eq_true.mp (SH_meth c.gd.w.params) r hr)
  refine method_fn (s := c.sh h' tk') X I (by kernel_rfl) (by kernel_rfl) (f := 117) (by kernel_rfl) (by kernel_rfl) sh ?_
  exact callWith_K0 X (by kernel_rfl) (con_ca (lev := lev + 1) (c := c) ok (con_fixed c.gd lev r hr) ρ _ _ _ _ _ S1 (.cons .glob .nil) fun h3 tk3 v k3 r3 => kq _ _ _ (k1.trans k3) r3)
end
theorem sw_scope {c : Cx} {sc : Scope} {t : List Expr} {v : Expr} {r : Option (List Str)} (hs : c.scope = sc) (h : swappedStores t v (envOf (sO "") sc 0 0 .none) = pure r) : swappedStores t v c.env = pure r := by
  rw [← h]
  subst hs
  rfl
theorem kds {c : Cx} {sc : Scope} {xs : List Str} (hs : c.scope = sc) (h : (xs.all fun x => sc.names.lookup x == some .local) = true) : ∀ x ∈ xs, c.env.kindOf x = some .local := fun x hx =>
  kd hs (beq_iff_eq.mp (List.all_eq_true.mp h x hx))
noncomputable def encBase (r : SR) (i : Ins) : Int := bor (bor (bor r.fixed (i.rd * 2 ^ 7)) (i.rs1 * 2 ^ 15)) (i.rs2 * 2 ^ 20)
noncomputable def kIsf : List Str := [sO "I", sO "shift", sO "fence"]
noncomputable def encF (r : SR) (i : Ins) : Int :=
  if kIsf.any (· == r.kind) then bor (encBase r i) (band i.imm 4095 * 2 ^ 20) else
  if r.kind == sO "S" then bor (bor (encBase r i) (band (shr i.imm 5) 127 * 2 ^ 25)) (band i.imm 31 * 2 ^ 7) else
  if r.kind == sO "B" then bor (encBase r i) (sbF i.imm) else
  if r.kind == sO "U" then bor (encBase r i) (i.imm * 2 ^ 12) else
  if r.kind == sO "J" then bor (encBase r i) (sjF i.imm) else
  if r.kind == sO "CSR" then bor (encBase r i) (i.csr * 2 ^ 20) else
  if r.kind == sO "CSRI" then bor (bor (encBase r i) (i.csr * 2 ^ 20)) (i.imm * 2 ^ 15) else encBase r i
theorem KD_small : KD.all (fun r => match r.rng with | some (_, lo, hi, st) => decide (-(2 ^ 60) < lo) && decide (hi < 2 ^ 60) | none => true) = true := by decide +kernel
theorem okField_small {r : KR} (hr : r ∈ KD) {nm : Str} {n : Int} (h : okField r nm n = true) : n.natAbs < 2 ^ 64 := by
  have hs := List.all_eq_true.mp KD_small r hr
  unfold okField at h
  split at h
  · split at h
    · split at h
      · rename_i lo hi st e
        rw [e] at hs
        simp only [Bool.and_eq_true, decide_eq_true_eq] at h hs
        omega
      · cases h
    · simp only [Bool.and_eq_true, decide_eq_true_eq] at h
      split at h <;> omega
  · simp at h; subst h; decide
theorem checkF_small {r : KR} (hr : r ∈ KD) {i : Ins} (h : checkF r i = true) : i.rd.natAbs < 2 ^ 64 ∧ i.rs1.natAbs < 2 ^ 64 ∧ i.rs2.natAbs < 2 ^ 64 ∧ i.imm.natAbs < 2 ^ 64 ∧ i.csr.natAbs < 2 ^ 64 := by
  unfold checkF at h
  simp only [List.all_cons, List.all_nil, Bool.and_true, Bool.and_eq_true] at h
  exact ⟨okField_small hr h.1, okField_small hr h.2.1, okField_small hr h.2.2.1, okField_small hr h.2.2.2.1, okField_small hr h.2.2.2.2⟩
theorem gl_so (P : Params) : nsIn (KK P) mainGlobals (Str.ofString "shape_of") = some (some (.ref 1024)) := by kernel_rfl
theorem gl_ck (P : Params) : nsIn (KK P) mainGlobals (Str.ofString "check") = some (some (.ref 1031)) := by kernel_rfl
theorem gl_sb (P : Params) : nsIn (KK P) mainGlobals (Str.ofString "spread_branch") = some (some (.ref 1038)) := by kernel_rfl
theorem gl_sj (P : Params) : nsIn (KK P) mainGlobals (Str.ofString "spread_jump") = some (some (.ref 1045)) := by kernel_rfl
theorem kp_so (P : Params) : keepIn (KK P) (.ref 1024) = true := by kernel_rfl
theorem kp_ck (P : Params) : keepIn (KK P) (.ref 1031) = true := by kernel_rfl
theorem kp_sb (P : Params) : keepIn (KK P) (.ref 1038) = true := by kernel_rfl
theorem kp_sj (P : Params) : keepIn (KK P) (.ref 1045) = true := by kernel_rfl
theorem lay_isf : PyData.canLayAll0 ((kIsf.map AV.str).map toPD) = true := by decide +kernel
theorem KD_lay : KD.all (fun r => (PyData.str r.kind).canLay0) = true := by decide +kernel
section
theorem enc_body {c : Cx} {lev} (ok : c.Ok (lev + 6)) (hs : c.scope = fnScope (astAt 29)) (r : SR) (hr : r ∈ SH) (q : KR) (hq : q ∈ KD) (hk : q.kind = r.kind) (i : Ins) (hi : i.nm = r.name) :
    BlJ c [(sO "instruction", i.av)] (fnBody (astAt 29)) (if checkF q i then .ret (.int (encF r i)) else .exc 45) := by
  have hsp := sh_split (List.all_eq_true.mp (SH_ok c.gd.w.params) r hr)
  have hlk := List.all_eq_true.mp KD_lay q hq
  rw [hk] at hlk
  have hkd := hsp.2.1
  clear hsp
  refine' bl_cons (sm_assign (a := .glob (srV r)) ok ?va ?vb rfl rfl) ?vd
  case va =>
    refine' ev_callK ok (ev_global ok (gl_so _) ok.kind (kd hs (by kernel_rfl)) (by kernel_rfl)) ?a1 (con_ca (lev := lev + 5) ok (con_so c.gd (lev + 4) r hr)) (kp_so _) rfl rfl rfl
    case a1 => refine' evs_cons ok ?_ evs_nil rfl; rw [← hi]; exact at_name ok (by walk_at "ev") rfl
  case vb => exact kd hs (by kernel_rfl)
  case vd =>
  refine' bl_cons (sm_tupR (as := [.str r.kind, .int i.imm]) (xs := [sO "kind", sO "imm"]) (ρ' := [(sO "kind", .str r.kind), (sO "imm", .int i.imm), (sO "shape", .glob (srV r)), (sO "instruction", i.av)]) ok ?v1 ?k1 rfl ?w1 rfl rfl rfl) ?d1
  case v1 => walk_at "ev"
  case k1 => exact kds hs (by decide +kernel)
  case w1 => exact sw_scope hs (by kernel_rfl)
  case d1 =>
  have hck := con_check c.gd lev q hq i
  rw [hk] at hck
  by_cases hc : checkF q i = true
  case neg =>
    rw [if_neg hc] at hck ⊢
    refine' bl_exc (sm_expr_exc ok (ex_callK ok (ev_global ok (gl_ck _) ok.kind (kd hs (by kernel_rfl)) (by kernel_rfl)) ?a2 (con_cx ok hck) (kp_ck _) rfl rfl rfl) rfl)
    case a2 => walk_at "evs"
  case pos =>
  rw [if_pos hc] at hck ⊢
  obtain ⟨z1, z2, z3, z4, z5⟩ := checkF_small hq hc
  refine' bl_cons (sm_expr ok (ev_callK ok (ev_global ok (gl_ck _) ok.kind (kd hs (by kernel_rfl)) (by kernel_rfl)) ?a2 (con_ca ok hck) (kp_ck _) rfl rfl rfl) trivial rfl) ?d2
  case a2 => walk_at "evs"
  case d2 =>
  refine' bl_cons (sm_assign (a := .int (encBase r i)) ok ?va3 ?vb3 rfl rfl) ?d3
  case va3 =>
    refine' ev_eq (ev_bin ok (ev_bin ok (ev_bin ok ?e1 (ev_bin ok ?e2 ev_int (op_shl (by decide) (by decide) z1)) op_or) (ev_bin ok ?e3 ev_int (op_shl (by decide) (by decide) z2)) op_or) (ev_bin ok ?e4 ev_int (op_shl (by decide) (by decide) z3)) op_or) rfl
    case e1 => exact ev_fixed hr ok (by walk_at "ev") rfl
    case e2 => walk_at "ev"
    case e3 => walk_at "ev"
    case e4 => walk_at "ev"
  case vb3 => exact kd hs (by kernel_rfl)
  case d3 =>
  refine' bl_if ok (b := kIsf.any (· == r.kind)) ?t1 (fun _ => rfl) ?x1 ?y1
  case t1 =>
    refine' ts_cmp ok (a := .str r.kind) (b := .tup (kIsf.map .str)) ?l1 ?l2 (op_inT ok lay_isf hlk) rfl
    case l1 => walk_at "ev"
    case l2 => walk_at "ev"
  case x1 =>
    intro h
    rw [show encF r i = bor (encBase r i) (band i.imm 4095 * 2 ^ 20) by unfold encF; rw [if_pos h]]
    refine' bl_ret (sm_return ?_)
    walk_at "evq"
  case y1 =>
  intro h1
  have g1 := Bool.eq_false_iff.mp h1
  refine' bl_if ok (b := r.kind == sO "S") ?t2 (fun _ => rfl) ?x2 ?y2
  case t2 => walk_at "tsq"
  case x2 =>
    intro h
    rw [show encF r i = bor (bor (encBase r i) (band (shr i.imm 5) 127 * 2 ^ 25)) (band i.imm 31 * 2 ^ 7) by unfold encF; rw [if_neg g1, if_pos h]]
    refine' bl_ret (sm_return ?_)
    walk_at "evq"
  case y2 =>
  intro h2
  have g2 := Bool.eq_false_iff.mp h2
  refine' bl_if ok (b := r.kind == sO "B") ?t3 (fun _ => rfl) ?x3 ?y3
  case t3 => walk_at "tsq"
  case x3 =>
    intro h
    rw [show encF r i = bor (encBase r i) (sbF i.imm) by unfold encF; rw [if_neg g1, if_neg g2, if_pos h]]
    refine' bl_ret (sm_return (ev_bin ok ?u1 (ev_callK ok (ev_global ok (gl_sb _) ok.kind (kd hs (by kernel_rfl)) (by kernel_rfl)) ?u2 (con_ca (lev := lev + 5) ok (con_sb c.gd (lev + 4) i.imm)) (kp_sb _) rfl rfl rfl) op_or))
    case u1 => walk_at "ev"
    case u2 => walk_at "evs"
  case y3 =>
  intro h3
  have g3 := Bool.eq_false_iff.mp h3
  refine' bl_if ok (b := r.kind == sO "U") ?t4 (fun _ => rfl) ?x4 ?y4
  case t4 => walk_at "tsq"
  case x4 =>
    intro h
    rw [show encF r i = bor (encBase r i) (i.imm * 2 ^ 12) by unfold encF; rw [if_neg g1, if_neg g2, if_neg g3, if_pos h]]
    refine' bl_ret (sm_return (ev_bin ok ?u1 (ev_bin ok ?u2 ev_int (op_shl (by decide) (by decide) z4)) op_or))
    case u1 => walk_at "ev"
    case u2 => walk_at "ev"
  case y4 =>
  intro h4
  have g4 := Bool.eq_false_iff.mp h4
  refine' bl_if ok (b := r.kind == sO "J") ?t5 (fun _ => rfl) ?x5 ?y5
  case t5 => walk_at "tsq"
  case x5 =>
    intro h
    rw [show encF r i = bor (encBase r i) (sjF i.imm) by unfold encF; rw [if_neg g1, if_neg g2, if_neg g3, if_neg g4, if_pos h]]
    refine' bl_ret (sm_return (ev_bin ok ?u1 (ev_callK ok (ev_global ok (gl_sj _) ok.kind (kd hs (by kernel_rfl)) (by kernel_rfl)) ?u2 (con_ca (lev := lev + 5) ok (con_sj c.gd (lev + 4) i.imm)) (kp_sj _) rfl rfl rfl) op_or))
    case u1 => walk_at "ev"
    case u2 => walk_at "evs"
  case y5 =>
  intro h5
  have g5 := Bool.eq_false_iff.mp h5
  refine' bl_if ok (b := r.kind == sO "CSR") ?t6 (fun _ => rfl) ?x6 ?y6
  case t6 => walk_at "tsq"
  case x6 =>
    intro h
    rw [show encF r i = bor (encBase r i) (i.csr * 2 ^ 20) by unfold encF; rw [if_neg g1, if_neg g2, if_neg g3, if_neg g4, if_neg g5, if_pos h]]
    refine' bl_ret (sm_return (ev_bin ok ?u1 (ev_bin ok ?u2 ev_int (op_shl (by decide) (by decide) z5)) op_or))
    case u1 => walk_at "ev"
    case u2 => walk_at "ev"
  case y6 =>
  intro h6
  have g6 := Bool.eq_false_iff.mp h6
  refine' bl_if ok (b := r.kind == sO "CSRI") ?t7 (fun _ => rfl) ?x7 ?y7
  case t7 => walk_at "tsq"
  case x7 =>
    intro h
    rw [show encF r i = bor (bor (encBase r i) (i.csr * 2 ^ 20)) (i.imm * 2 ^ 15) by unfold encF; rw [if_neg g1, if_neg g2, if_neg g3, if_neg g4, if_neg g5, if_neg g6, if_pos h]]
    refine' bl_ret (sm_return (ev_bin ok (ev_bin ok ?u1 (ev_bin ok ?u2 ev_int (op_shl (by decide) (by decide) z5)) op_or) (ev_bin ok ?u3 ev_int (op_shl (by decide) (by decide) z4)) op_or))
    case u1 => walk_at "ev"
    case u2 => walk_at "ev"
    case u3 => walk_at "ev"
  case y7 =>
  intro h7
  have g7 := Bool.eq_false_iff.mp h7
  rw [show encF r i = encBase r i by unfold encF; rw [if_neg g1, if_neg g2, if_neg g3, if_neg g4, if_neg g5, if_neg g6, if_neg g7]]
  refine' bl_ret (sm_return ?_)
  walk_at "ev"
end
theorem con_enc (gd : Gd) (lev : Nat) (r : SR) (hr : r ∈ SH) (q : KR) (hq : q ∈ KD) (hk : q.kind = r.kind) (i : Ins) (hi : i.nm = r.name) : Con gd (lev + 7) (.ref 1052) [i.av] (if checkF q i then .ok (.int (encF r i)) else .exc 45) := by
  have := con_fn (gd := gd) (lev := lev + 6) (as := [i.av]) (out := if checkF q i then .ret (.int (encF r i)) else .exc 45) [sO "instruction"] (show (KK gd.w.params).lookup 1052 = some (o1052 gd.w.params) by kernel_rfl) (by kernel_rfl)
    (fun s vs hl _ => by obtain ⟨a0, rfl⟩ := len1 hl; exact .of_eq (by kernel_rfl)) (by decide +kernel)
    (fun c hg ok hs hn => enc_body ok hs r hr q hq hk i hi) (by kernel_rfl) (by kernel_rfl) (by kernel_rfl) (by decide +kernel)
  revert this
  cases checkF q i <;> exact id
noncomputable def Cx.ownify (c : Cx) (a : Addr) : Cx := { c with X := a :: c.X, own := a :: c.own }
theorem Cx.Ok.ownify {c : Cx} {lev a} (ok : c.Ok lev) (hH : c.gd.H.get? a = none) (hX : a ∉ c.X) : (c.ownify a).Ok lev :=
  ⟨ok.gr, ok.stack, ok.depth, ok.units, ok.kind, ok.hand, fun b hb => .tail _ (ok.frX b hb), fun b o q z => by
    rcases List.mem_cons.mp z with rfl | z
    · exact absurd (hH.symm.trans q) nofun
    · exact ok.hX b o q z, fun b hb => by
    rcases List.mem_cons.mp hb with rfl | hb
    · exact .head _
    · exact .tail _ (ok.ownX b hb), fun b hb z => by
    rcases List.mem_cons.mp hb with rfl | hb
    · exact hX (ok.frX _ z)
    · exact ok.ownF b hb z⟩
theorem kps_own {c : Cx} {a h h2 h3} (k1 : KpS c h h2) (hn : h.get? a = none) (k2 : KpS (c.ownify a) h2 h3) : KpS c h h3 := by
  have ne : ∀ b o, h.get? b = some o → b ≠ a := fun b o q z => by rw [z, hn] at q; cases q
  refine ⟨k1.1.trans k2.1, fun b o n n' q => k2.2.1 b o n (fun z => ?_) (k1.2.1 b o n n' q), fun b o n n' q => ?_⟩
  · rcases List.mem_cons.mp z with z | z
    · exact ne b o q z
    · exact n' z
  · obtain ⟨sl, q1⟩ := k1.2.2 b o n n' q
    obtain ⟨sl', q2⟩ := k2.2.2 b _ n (fun z => by
      rcases List.mem_cons.mp z with z | z
      · exact ne b o q z
      · exact n' z) q1
    exact ⟨sl', q2⟩
theorem OutK.ownify {c : Cx} {a : Addr} {h h2 : Heap} {Q E} (k1 : KpS c h h2) (hn : h.get? a = none) : ∀ {out : Out}, out.ends = true → OutK c h Q E out → OutK (c.ownify a) h2 Q E out
  | .ret x σ, _, k => fun h' tk' v kk r hσ => k h' tk' v (kps_own k1 hn kk) (r.mono vle_tail) hσ
  | .exc C, _, k => fun h' tk' e kk x => by
    have ne : ∀ b o, h.get? b = some o → b ≠ a := fun b o q z => by rw [z, hn] at q; cases q
    have mem : ∀ b, b ∉ c.fr ++ c.own → b ≠ a → b ∉ (c.ownify a).fr ++ (c.ownify a).own := fun b n n' z => by
      rcases List.mem_append.mp z with z | z
      · exact n (List.mem_append_left _ z)
      · rcases List.mem_cons.mp z with z | z
        · exact n' z
        · exact n (List.mem_append_right _ z)
    refine k h' tk' e (kps_own k1 hn kk) ⟨fun tk Q E q => x.1 tk Q E fun h4 tk4 k4 f => q h4 tk4 (kps_own k1 hn k4) ?_, fun tk Q E q => x.2 tk Q E fun h4 tk4 k4 f => q h4 tk4 (kps_own k1 hn k4) ?_⟩
    · obtain ⟨B, a0, b, fl⟩ := f
      exact ⟨B, a0, fun d o n q => b d o (mem d n (ne d o q)) (k1.both d o n q), fl⟩
    · obtain ⟨B, a0, b, fl⟩ := f
      exact ⟨B, a0, fun d o n q => b d o (mem d n (ne d o q)) (k1.both d o n q), fl⟩
section
variable {c : Cx} {lev : Nat} {ρ : Loc}
theorem kps_hide {c : Cx} {a h h'} (k : KpS (c.hide a) h h') : KpS c h h' := k
theorem There.dict {h : Heap} {w a vs} (d : h.DictOf (strKind PG w) a vs) : There h a := let ⟨o, es, ep, e, _, q, _⟩ := d; ⟨o, e, fun vs z => by rw [q] at z; cases z⟩
theorem bl_dictOwn {x : Str} {keys vals pos p p' kvs ss out} (ok : c.Ok lev) (h1 : EpJ c ρ keys vals pos kvs) (hn : (kvs.map (·.1)).Nodup) (hall : keys.all (·.isSome) = true) (hl : keys.length = vals.length) (h0 : keys ≠ []) (hlen : keys.length ≤ 15)
    (hk : c.env.kindOf x = some .local) (hs : swapsWith (.Dict keys vals pos) (some (.Name x p')) p.line c.env = pure false) (he : out.ends = true)
    (hb : ∀ a, (c.ownify a).Ok lev → BlJ (c.ownify a) ((x, .own a (.dict kvs)) :: ρ) ss out) : BlJ c ρ (.Assign [.Name x p'] (.Dict keys vals pos) p :: ss) out := fun h tk Q E S k => by
  refine wpAny_execs_cons (wpAny_Assign_Name (dict_new ok h1 hn hall hl h0 hlen S fun h1 tk1 a vs k1 hna hX ns hD kv => ?_) hs)
  have hH : c.gd.H.get? a = none := by
    cases q : c.gd.H.get? a with
    | none => rfl
    | some o => rw [S.keep a o q] at hna; cases hna
  have S1 : St (c.hide a) ρ h1 := S.hide ok k1 hna (let ⟨o, _, _, e, _⟩ := hD; ⟨o, e⟩)
  refine store_name (c := c.hide a) (ok.hide hH) S1 (a := .glob (.ref a)) .glob rfl hk fun h2 tk2 k2 S2 => ?_
  have hf : a ∉ c.fr := fun z => hX (ok.frX _ z)
  have ho : a ∉ c.own := fun z => hX (ok.ownX _ z)
  have hD2 : h2.DictOf (strKind PG c.gd.w) a vs := hD.at fun o e => k2.2.1 a o hf ho e
  have S3 : St (c.ownify a) ((x, .own a (.dict kvs)) :: ρ) h2 := by
    refine ⟨?_, S2.keep, S2.frs, S2.xlt, fun b hb => ?_, fun y b oc q => ?_⟩
    · obtain ⟨m, n1, r1⟩ := S2.ns
      refine ⟨m, n1, fun y b q => ?_⟩
      rw [List.lookup_cons] at q
      split at q
      · rename_i z
        cases q
        obtain ⟨v, e1, e2⟩ := r1 x (.glob (.ref a)) lk_here
        cases e2
        exact ⟨_, by rw [beq_iff_eq.mp z]; exact e1, .own⟩
      · rename_i z
        exact r1 y b (by rw [List.lookup_cons, z]; exact q)
    · rcases List.mem_cons.mp hb with rfl | hb
      · exact There.dict hD2
      · exact S2.oth b hb
    · rw [List.lookup_cons] at q
      split at q
      · cases q
        exact ⟨.head _, vs, hD2, kv⟩
      · rename_i z
        obtain ⟨q1, q2⟩ := S2.own y b oc (by rw [List.lookup_cons, z]; exact q)
        exact ⟨.tail _ q1, q2⟩
  exact hb a (ok.ownify hH hX) h2 tk2 _ _ S3 (OutK.ownify (k1.s.trans (kps_hide k2)) hna he k)
theorem ev_ownget {x : Str} {xp p : Pos} {e : Expr} {a : Addr} {kvs : List (Str × Int)} {k : Str} {n : Int} (ok : c.Ok lev) (hl : ρ.lookup x = some (.own a (.dict kvs))) (hk : c.env.kindOf x = some .local) (hd : (x == ("__debug__" : Str)) = false) (h1 : EvJ c ρ e (.str k)) (hv : kvs.lookup k = some n)
    (hs : ∀ a t, subscripted e false (.ref a) (.str k t) = operate [.ref a, .str k t] (getItem (.ref a) (.str k t))) : EvJ c ρ (.Subscript (.Name x xp) e p) (.int n) := fun h tk Q E S kq => by
  refine Subscript_ (ev_name hl ok.kind hk hd h tk _ _ S fun h' tk' v k1 r1 => ?_)
  have S1 := S.kp ok k1
  refine h1 h' tk' _ _ S1 fun h2 tk2 u k2 r2 => ?_
  have S2 := S1.kp ok k2
  obtain rfl := r1.i
  obtain ⟨_, rfl⟩ := r2.i
  obtain ⟨_, vs, hD, kv⟩ := S2.own x a _ hl
  obtain ⟨t, hv'⟩ := kv.valueAt hv
  exact sub_tail (s := c.sh h2 tk2) hD.typeIs slot_dict_getitem.lookup (wpAny_getItem_of (strKind_is _ _ _ _) hD.mapOf hv' (kq _ _ _ (k1.trans k2) .int)) (hs _ _)
theorem St.turn {x : Str} {a : Addr} {oc oc' : OC} {h h' : Heap} (ok : c.Ok lev) (S : St c ρ h) (hl : ρ.lookup x = some (.own a oc)) (hu : ∀ y b oc, ρ.lookup y = some (.own b oc) → y = x ∨ b ≠ a) (k : ∀ b o, b ≠ a → h.get? b = some o → h'.get? b = some o) (ht : There h' a) (hh : Holds c.gd.w h' a oc') : St c ((x, .own a oc') :: ρ) h' ∧ KpS c h h' := by
  obtain ⟨ha, _⟩ := S.own x a oc hl
  have haX := ok.ownX a ha
  have haF := ok.ownF a ha
  refine ⟨⟨?_, fun b o q => k b o (fun z => ok.hX b o q (z ▸ haX)) (S.keep b o q), fun env hv => ?_, fun b hb => ?_, fun b hb => ?_, fun y b oc2 q => ?_⟩, fun b ⟨o, q, n⟩ => ?_, fun b o n n' q => k b o (fun z => n' (z ▸ ha)) q, fun b o n n' q => ⟨o.slots, k b o (fun z => n' (z ▸ ha)) q⟩⟩
  · obtain ⟨m, n1, r1⟩ := S.ns
    obtain ⟨o, es, ep, q1, q2, q3⟩ := n1
    refine ⟨m, ⟨o, es, ep, k _ _ (fun z => haF (z ▸ .head _)) q1, q2, q3⟩, fun y b q => ?_⟩
    have mono : VLe (vw h c.X) (vw h' c.X) := fun d o e => by
      unfold vw at e ⊢
      split at e
      · cases e
      · rename_i q
        rw [if_neg q]
        exact k d o (fun z => q (z ▸ haX)) e
    rw [List.lookup_cons] at q
    split at q
    · rename_i z
      cases q
      obtain ⟨v, e1, e2⟩ := r1 x _ hl
      cases e2
      exact ⟨_, by rw [beq_iff_eq.mp z]; exact e1, .own⟩
    · obtain ⟨v, e1, e2⟩ := r1 y b q
      exact ⟨v, e1, e2.mono mono⟩
  · obtain ⟨a1, L, o, es, ep, b1, c1, d1⟩ := S.frs env hv
    exact ⟨a1, L, o, es, ep, b1, k _ _ (fun z => haF (z ▸ List.mem_cons_of_mem _ (List.mem_filterMap.mpr ⟨env, hv, b1⟩))) c1, d1⟩
  · by_cases z : b = a
    · obtain ⟨o, q, _⟩ := ht
      exact z ▸ ⟨o, q⟩
    · obtain ⟨o, q⟩ := S.xlt b hb
      exact ⟨o, k b o z q⟩
  · by_cases z : b = a
    · exact z ▸ ht
    · obtain ⟨o, q, n⟩ := S.oth b hb
      exact ⟨o, k b o z q, n⟩
  · rw [List.lookup_cons] at q
    split at q
    · cases q
      exact ⟨ha, hh⟩
    · rename_i z
      obtain ⟨q1, q2⟩ := S.own y b oc2 q
      rcases hu y b oc2 q with rfl | hne
      · rw [beq_self_eq_true] at z; cases z
      · exact ⟨q1, q2.keep fun o q => k b o hne q⟩
  · by_cases z : b = a
    · exact z ▸ ht
    · exact ⟨o, k b o z q, n⟩
theorem sm_ownset {x : Str} {xp p p' : Pos} {e ve : Expr} {a : Addr} {kvs : List (Str × Int)} {k : Str} {n m : Int} (ok : c.Ok lev) (hv : EvJ c ρ ve (.int n)) (hl : ρ.lookup x = some (.own a (.dict kvs))) (hk : c.env.kindOf x = some .local) (hd : (x == ("__debug__" : Str)) = false) (h1 : EvJ c ρ e (.str k)) (hm : kvs.lookup k = some m) (hz : kvs.length ≤ 1000)
    (hu : ∀ y b oc, ρ.lookup y = some (.own b oc) → y = x ∨ b ≠ a)
    (hs : swapsWith ve (some (.Subscript (.Name x xp) e p')) p.line c.env = pure false) : SmJ c ρ (.Assign [.Subscript (.Name x xp) e p'] ve p) (.nxt ((x, .own a (.dict (setKv kvs k n))) :: ρ)) := fun h tk Q E S kq => by
  refine wpAny_Assign_Subscript (hv h tk _ _ S fun h1' tk1 v k1 r1 => ?_) hs
  have S1 := S.kp ok k1
  refine ev_name hl ok.kind hk hd h1' tk1 _ _ S1 fun h2 tk2 u k2 r2 => ?_
  have S2 := S1.kp ok k2
  refine h1 h2 tk2 _ _ S2 fun h3 tk3 z k3 r3 => ?_
  have S3 := S2.kp ok k3
  obtain ⟨_, rfl⟩ := r1.i
  obtain rfl := r2.i
  obtain ⟨_, rfl⟩ := r3.i
  obtain ⟨_, vs, hD, kv⟩ := S3.own x a _ hl
  refine wpAny_setItem_pairs (s := c.sh h3 tk3) (knd := PySem.strKind PG c.gd.w) (k := k) (strKind_is _ _ _ _) hD (fun h4 hD4 hs4 => ?_) (by rw [kv.len, sizeLine_eq]; omega)
  obtain ⟨S4, k4⟩ := S3.turn (h' := h4) ok hl hu (fun b o nb q => (hs4.2 b nb).trans q) (There.dict hD4) (oc' := .dict (setKv kvs k n)) ⟨_, hD4, kv.stored hm⟩
  exact kq h4 _ (((k1.trans k2).trans k3).s.trans k4) S4
end
noncomputable def tellAV (w : Int) : AV := match findS w with | some r => (decR r w).av | none => .none
theorem gl_dec (P : Params) : nsIn (KK P) mainGlobals (Str.ofString "decode") = some (some (.ref 1080)) := by kernel_rfl
theorem gl_enc (P : Params) : nsIn (KK P) mainGlobals (Str.ofString "encode") = some (some (.ref 1052)) := by kernel_rfl
theorem kp_dec (P : Params) : keepIn (KK P) (.ref 1080) = true := by kernel_rfl
theorem kp_enc (P : Params) : keepIn (KK P) (.ref 1052) = true := by kernel_rfl
noncomputable def setI (i : Ins) (what : Str) (v : Int) : Ins :=
  ⟨i.nm, if sO "rd" = what then v else i.rd, if sO "rs1" = what then v else i.rs1, if sO "rs2" = what then v else i.rs2, if sO "imm" = what then v else i.imm, if sO "csr" = what then v else i.csr⟩
theorem setKv_insF (i : Ins) (what : Str) (v : Int) : setKv (insF i) what v = insF (setI i what v) := by
  unfold setKv insF setI
  simp only [List.map_cons, List.map_nil]
  congr 1
  · split <;> rfl
  congr 1
  · split <;> rfl
  congr 1
  · split <;> rfl
  congr 1
  · split <;> rfl
  congr 1
  · split <;> rfl
theorem lkF_rd {i : Ins} : (insF i).lookup (Str.ofString "rd") = some i.rd := by kernel_rfl
theorem lkF_rs1 {i : Ins} : (insF i).lookup (Str.ofString "rs1") = some i.rs1 := by kernel_rfl
theorem lkF_rs2 {i : Ins} : (insF i).lookup (Str.ofString "rs2") = some i.rs2 := by kernel_rfl
theorem lkF_imm {i : Ins} : (insF i).lookup (Str.ofString "imm") = some i.imm := by kernel_rfl
theorem lkF_csr {i : Ins} : (insF i).lookup (Str.ofString "csr") = some i.csr := by kernel_rfl
theorem hu_one {x : Str} {a : Addr} {oc : OC} {ρ' : Loc} (h : notOwns (ρ'.map (·.2)) = true) : ∀ y b oc', ((x, AV.own a oc) :: ρ').lookup y = some (.own b oc') → y = x ∨ b ≠ a := fun y b oc' e => by
  rw [List.lookup_cons] at e
  split at e
  · rename_i q; exact .inl (beq_iff_eq.mp q)
  · have := notOwns_of h _ (List.mem_map_of_mem (f := Prod.snd) (lookup_mem e))
    cases this
section
section
variable {c : Cx} {lev : Nat} {ρ : Loc}
theorem ev_or2 {e1 e2 : Expr} {a b : Bool} {p} (ok : c.Ok lev) (h1 : EvJ c ρ e1 (.bool a)) (h2 : a = false → EvJ c ρ e2 (.bool b)) : EvJ c ρ (.BoolOp .Or [e1, e2] p) (.bool (a || b)) := fun h tk Q E S k => by
  refine BoolOp_or (h1 h tk _ _ S fun h' tk' v k1 r1 => ?_)
  obtain rfl := r1.i
  refine wpAny_truthy_bool ?_
  cases a
  · exact BoolOp_one (h2 rfl h' tk' _ _ (S.kp ok k1) fun h3 tk3 u k3 r3 => k _ _ _ (k1.trans k3) r3)
  · exact k _ _ _ k1 .bool
theorem ev_and2 {e1 e2 : Expr} {a b : Bool} {p} (ok : c.Ok lev) (h1 : EvJ c ρ e1 (.bool a)) (h2 : a = true → EvJ c ρ e2 (.bool b)) : EvJ c ρ (.BoolOp .And [e1, e2] p) (.bool (a && b)) := fun h tk Q E S k => by
  refine BoolOp_and (h1 h tk _ _ S fun h' tk' v k1 r1 => ?_)
  obtain rfl := r1.i
  refine wpAny_truthy_bool ?_
  cases a
  · exact k _ _ _ k1 .bool
  · exact BoolOp_one (h2 rfl h' tk' _ _ (S.kp ok k1) fun h3 tk3 u k3 r3 => k _ _ _ (k1.trans k3) r3)
end
theorem told_body {c : Cx} {lev} (ok : c.Ok (lev + 7)) (hs : c.scope = fnScope (astAt 41)) {w : Int} (h0 : 0 ≤ w) (h1 : w < 2 ^ 32) : BlJ c [(sO "whole", .int w)] (fnBody (astAt 41)) (.ret (tellAV w)) := by
  unfold tellAV
  cases hr : findS w with
  | some r =>
    refine' bl_ret (sm_tryret (hp := ⟨0, 0, 0, 0⟩) (ev_callK ok (ev_global ok (gl_dec _) ok.kind (kd hs (by kernel_rfl)) (by kernel_rfl)) ?a (con_ca (lev := lev + 6) ok (con_dec c.gd (lev + 2) h0 h1 hr)) (kp_dec _) rfl rfl rfl))
    case a => walk_at "evs"
  | none =>
    refine' bl_ret (sm_tryretX (C := 64) ok (ex_callK ok (ev_global ok (gl_dec _) ok.kind (kd hs (by kernel_rfl)) (by kernel_rfl)) ?a (con_cx (lev := lev + 6) ok (con_decX c.gd lev h0 h1 hr)) (kp_dec _) rfl rfl rfl) (xc64 _) (glob64 _) (kd hs (by kernel_rfl)) (by kernel_rfl) ?b)
    case a => walk_at "evs"
    case b => exact fun A Q E h tk q => wpAny_Constant_none (q _ _ fun V => .none)
theorem con_told (gd : Gd) (lev : Nat) {w : Int} (h0 : 0 ≤ w) (h1 : w < 2 ^ 32) : Con gd (lev + 8) (.ref 1127) [.int w] (.ok (tellAV w)) :=
  con_fn (lev := lev + 7) (as := [.int w]) (out := .ret (tellAV w)) [sO "whole"] (show (KK gd.w.params).lookup 1127 = some (o1127 gd.w.params) by kernel_rfl) (by kernel_rfl)
    (fun s vs hl _ => by obtain ⟨a0, rfl⟩ := len1 hl; exact .of_eq (by kernel_rfl)) (by decide +kernel)
    (fun c hg ok hs hn => told_body ok hs h0 h1) (by kernel_rfl) (by kernel_rfl) (by kernel_rfl) (by decide +kernel)
theorem ep_ins {c : Cx} {lev : Nat} {ρ : Loc} {pos : Pos} {i : Ins} {e1 e2 e3 e4 e5 : Expr} {k1 k2 k3 k4 k5 : Nat} {p1 p2 p3 p4 p5 : Pos} (ok : c.Ok lev) (h1 : EvJ c ρ e1 (.int i.rd)) (h2 : EvJ c ρ e2 (.int i.rs1)) (h3 : EvJ c ρ e3 (.int i.rs2)) (h4 : EvJ c ρ e4 (.int i.imm)) (h5 : EvJ c ρ e5 (.int i.csr)) :
    EpJ c ρ [some (.Constant (.str "rd") k1 p1), some (.Constant (.str "rs1") k2 p2), some (.Constant (.str "rs2") k3 p3), some (.Constant (.str "imm") k4 p4), some (.Constant (.str "csr") k5 p5)] [e1, e2, e3, e4, e5] pos (insF i) :=
  ep_cons ok h1 (ep_cons ok h2 (ep_cons ok h3 (ep_cons ok h4 (ep_cons ok h5 ep_nil))))
theorem ev_rebuild {c : Cx} {lev : Nat} {ρ : Loc} {x : Str} {a : Addr} {j : Ins} {e0 : Expr} {np cp x1 x2 x3 x4 x5 c1 c2 c3 c4 c5 s1 s2 s3 s4 s5 : Pos} {k1 k2 k3 k4 k5 : Nat} (ok : c.Ok (lev + 1)) (hI : c.env.kindOf (Str.ofString "Instruction") = some .globalImplicit) (h0 : EvJ c ρ e0 (.str j.nm)) (hl : ρ.lookup x = some (.own a (.dict (insF j)))) (hk : c.env.kindOf x = some .local) (hd : (x == ("__debug__" : Str)) = false)
    (he : eval (.Call (.Name "Instruction" np) [e0, .Subscript (.Name x x1) (.Constant (.str "rd") k1 c1) s1, .Subscript (.Name x x2) (.Constant (.str "rs1") k2 c2) s2, .Subscript (.Name x x3) (.Constant (.str "rs2") k3 c3) s3, .Subscript (.Name x x4) (.Constant (.str "imm") k4 c4) s4, .Subscript (.Name x x5) (.Constant (.str "csr") k5 c5) s5] [] cp) c.env = (do callWith cp (← eval (.Name "Instruction" np) c.env) [] (backTo cp (starEach [e0, .Subscript (.Name x x1) (.Constant (.str "rd") k1 c1) s1, .Subscript (.Name x x2) (.Constant (.str "rs1") k2 c2) s2, .Subscript (.Name x x3) (.Constant (.str "rs2") k3 c3) s3, .Subscript (.Name x x4) (.Constant (.str "imm") k4 c4) s4, .Subscript (.Name x x5) (.Constant (.str "csr") k5 c5) s5] c.env)) (backToKw cp (keywordEach [] c.env))))
    (hs : starEach [e0, .Subscript (.Name x x1) (.Constant (.str "rd") k1 c1) s1, .Subscript (.Name x x2) (.Constant (.str "rs1") k2 c2) s2, .Subscript (.Name x x3) (.Constant (.str "rs2") k3 c3) s3, .Subscript (.Name x x4) (.Constant (.str "imm") k4 c4) s4, .Subscript (.Name x x5) (.Constant (.str "csr") k5 c5) s5] c.env = (false, eval e0 c.env) :: starEach [.Subscript (.Name x x1) (.Constant (.str "rd") k1 c1) s1, .Subscript (.Name x x2) (.Constant (.str "rs1") k2 c2) s2, .Subscript (.Name x x3) (.Constant (.str "rs2") k3 c3) s3, .Subscript (.Name x x4) (.Constant (.str "imm") k4 c4) s4, .Subscript (.Name x x5) (.Constant (.str "csr") k5 c5) s5] c.env) :
    EvJ c ρ (.Call (.Name "Instruction" np) [e0, .Subscript (.Name x x1) (.Constant (.str "rd") k1 c1) s1, .Subscript (.Name x x2) (.Constant (.str "rs1") k2 c2) s2, .Subscript (.Name x x3) (.Constant (.str "rs2") k3 c3) s3, .Subscript (.Name x x4) (.Constant (.str "imm") k4 c4) s4, .Subscript (.Name x x5) (.Constant (.str "csr") k5 c5) s5] [] cp) j.av :=
  ev_callK ok (ev_global ok (gl_in _) ok.kind hI (by kernel_rfl)) (evs_cons ok h0 (evs_cons ok (ev_ownget ok hl hk hd ev_str lkF_rd fun _ _ => rfl) (evs_cons ok (ev_ownget ok hl hk hd ev_str lkF_rs1 fun _ _ => rfl) (evs_cons ok (ev_ownget ok hl hk hd ev_str lkF_rs2 fun _ _ => rfl) (evs_cons ok (ev_ownget ok hl hk hd ev_str lkF_imm fun _ _ => rfl) (evs_cons ok (ev_ownget ok hl hk hd ev_str lkF_csr fun _ _ => rfl) evs_nil rfl) rfl) rfl) rfl) rfl) hs) (ca_inst6 ok) (kp_in _) he hs rfl
theorem len3 {α : Type} {vs : List α} (h : vs.length = 3) : ∃ a b d, vs = [a, b, d] := by
  match vs, h with | [a, b, d], _ => exact ⟨a, b, d, rfl⟩
theorem ref_body {c : Cx} {lev} (ok : c.Ok (lev + 8)) (hs : c.scope = fnScope (astAt 43)) (r : SR) (hr : r ∈ SH) (q : KR) (hq : q ∈ KD) (hk : q.kind = r.kind) (i : Ins) (hi : i.nm = r.name) (what : Str) {m : Int} (hw : (insF i).lookup what = some m) (v : Int) :
    BlJ c [(sO "value", .int v), (sO "what", .str what), (sO "made", i.av)] (fnBody (astAt 43)) (.ret (.bool (!checkF q (setI i what v)))) := by
  refine' bl_dictOwn ok (ep_ins (i := i) ok ?e1 ?e2 ?e3 ?e4 ?e5) insF_nd rfl rfl (by simp) (by simp) (kd hs (by kernel_rfl)) rfl rfl ?b
  case e1 => walk_at "ev"
  case e2 => walk_at "ev"
  case e3 => walk_at "ev"
  case e4 => walk_at "ev"
  case e5 => walk_at "ev"
  case b =>
  intro a ok
  have hs : (c.ownify a).scope = fnScope (astAt 43) := hs
  generalize c.ownify a = c at ok hs ⊢
  refine' bl_cons (sm_ownset (x := sO "parts") (n := v) ok ?v1 lk_here (kd hs (by kernel_rfl)) (by kernel_rfl) ?i1 hw (by simp) (hu_one rfl) rfl) ?d1
  case v1 => walk_at "ev"
  case i1 => walk_at "ev"
  case d1 =>
  rw [setKv_insF]
  generalize hj : setI i what v = j
  have hjn : j.nm = r.name := by rw [← hj]; exact hi
  have hN : (j.nm = i.nm) := by rw [← hj]; rfl
  have hE : ∀ {ρ : Loc}, ρ = (sO "parts", .own a (.dict (insF j))) :: (sO "parts", .own a (.dict (insF i))) :: [(sO "value", .int v), (sO "what", .str what), (sO "made", i.av)] → EvJ c ρ (.Name "made" ⟨252, 27, 252, 31⟩) i.av := by
    rintro ρ rfl
    walk_at "ev"
  have hJ := con_enc c.gd lev r hr q hq hk j hjn
  have hret : ∀ {ρ b k p1 p2}, BlJ c ρ [.Return (some (.Constant (.bool b) k p1)) p2] (.ret (.bool b)) := fun {ρ b k p1 p2} => bl_ret (sm_return ev_bool)
  cases hc : checkF q j with
  | true =>
    rw [hc, if_pos rfl] at hJ
    refine' bl_cons (sm_tryexpr (n := encF r j) ok ?g1 rfl) (bl_ret (sm_return ev_bool))
    case g1 =>
      refine' ev_callK ok (ev_global ok (gl_enc _) ok.kind (kd hs (by kernel_rfl)) (by kernel_rfl)) (evs_cons ok ?g2 evs_nil rfl) (con_ca (lev := lev + 7) ok hJ) (kp_enc _) rfl rfl rfl
      case g2 => exact ev_rebuild ok (kd hs (by kernel_rfl)) (hN ▸ at_name ok (hE rfl) rfl) lk_here (kd hs (by kernel_rfl)) (by kernel_rfl) rfl rfl
  | false =>
    rw [hc, if_neg (by decide)] at hJ
    refine' bl_ret (sm_tryexprX (C := 45) ok ?g1 rfl (xc45 _) (glob45 _) (kd hs (by kernel_rfl)) (by kernel_rfl) ?g3)
    case g1 =>
      refine' ex_callK ok (ev_global ok (gl_enc _) ok.kind (kd hs (by kernel_rfl)) (by kernel_rfl)) (evs_cons ok ?g2 evs_nil rfl) (con_cx (lev := lev + 7) ok hJ) (kp_enc _) rfl rfl rfl
      case g2 => exact ev_rebuild ok (kd hs (by kernel_rfl)) (hN ▸ at_name ok (hE rfl) rfl) lk_here (kd hs (by kernel_rfl)) (by kernel_rfl) rfl rfl
    case g3 => exact fun A Q E h tk q => wpAny_Constant_bool (q _ _ fun V => .bool)
theorem con_ref (gd : Gd) (lev : Nat) (r : SR) (hr : r ∈ SH) (q : KR) (hq : q ∈ KD) (hk : q.kind = r.kind) (i : Ins) (hi : i.nm = r.name) (what : Str) {m : Int} (hw : (insF i).lookup what = some m) (v : Int) : Con gd (lev + 9) (.ref 1141) [i.av, .str what, .int v] (.ok (.bool (!checkF q (setI i what v)))) :=
  con_fn (lev := lev + 8) (as := [i.av, .str what, .int v]) (out := .ret (.bool (!checkF q (setI i what v)))) [sO "made", sO "what", sO "value"] (show (KK gd.w.params).lookup 1141 = some (o1141 gd.w.params) by kernel_rfl) (by kernel_rfl)
    (fun s vs hl _ => by obtain ⟨a0, a1, a2, rfl⟩ := len3 hl; exact .of_eq (by kernel_rfl)) (by decide +kernel)
    (fun c hg ok hs hn => ref_body ok hs r hr q hq hk i hi what hw v) (by kernel_rfl) (by kernel_rfl) (by kernel_rfl) (by decide +kernel)
end
noncomputable abbrev Bits := List (Str × Int)
noncomputable def bitAV (p : Str × Int) : AV := .tup [.str p.1, .int p.2]
noncomputable abbrev bitsAV (bs : Bits) : AV := .list (bs.map bitAV)
noncomputable abbrev insT (i : Ins) : List AV := [.str i.nm, .int i.rd, .int i.rs1, .int i.rs2, .int i.imm, .int i.csr]
theorem decR_nm (r : SR) (w : Int) : (decR r w).nm = r.name := by
  unfold decR; (repeat' split) <;> rfl
theorem shaped_ins {i : Ins} (h : (PyData.str i.nm).canLay0 = true) : SeqAt.shaped (.tuple ((insT i).map toPD)) = true := by
  unfold SeqAt.shaped
  rw [Bool.and_eq_true]
  constructor
  · show (PyData.canLay0 (.str i.nm) && _) = true
    rw [h]; rfl
  · rfl
theorem eqv_ins (i : Ins) : PyData.eqv (.tuple ((insT i).map toPD)) (.tuple ((insT i).map toPD)) = true := by
  simp [toPD, PyData.eqv, PyData.eqvAll]
theorem lay_nil : (PyData.str (sO "")).canLay0 = true := by decide +kernel
noncomputable def otherW (w : Int) (k : Nat) : Int := bxor w (2 ^ (31 - k))
structure TurnOk (i : Ins) (w : Int) (k : Nat) (what : Str) (worth : Int) : Prop where
  h0 : 0 ≤ otherW w k
  h1 : otherW w k < 2 ^ 32
  told : ∀ r', findS (otherW w k) = some r' → ∃ q ∈ KD, q.kind = r'.kind ∧ checkF q (decR r' (otherW w k)) = true ∧ encF r' (decR r' (otherW w k)) = otherW w k
  fixed : what = sO "" → ∀ r', findS (otherW w k) = some r' → r'.name ≠ i.nm
  field : what ≠ sO "" → ∃ r' m, findS (otherW w k) = some r' ∧ (insF i).lookup what = some m ∧ decR r' (otherW w k) = setI i what (m + (if w < otherW w k then worth else 0 - worth))
theorem gl_told (P : Params) : nsIn (KK P) mainGlobals (Str.ofString "_law_told") = some (some (.ref 1127)) := by kernel_rfl
theorem kp_told (P : Params) : keepIn (KK P) (.ref 1127) = true := by kernel_rfl
theorem len5 {α : Type} {vs : List α} (h : vs.length = 5) : ∃ a b d e f, vs = [a, b, d, e, f] := by
  match vs, h with | [a, b, d, e, f], _ => exact ⟨a, b, d, e, f, rfl⟩
section
theorem tr_body {c : Cx} {lev} (ok : c.Ok (lev + 9)) (hs : c.scope = fnScope (astAt 42)) (i : Ins) (hn : (PyData.str i.nm).canLay0 = true) (w : Int) (bs : Bits) (k : Nat) (hk : k < 32) (what : Str) (worth : Int) (hb : bs[k]? = some (what, worth)) (much : Bool) (T : TurnOk i w k what worth) :
    BlJ c [(sO "much", .bool much), (sO "k", .int k), (sO "bits", bitsAV bs), (sO "whole", .int w), (sO "made", i.av)] (fnBody (astAt 42)) (.ret (.bool true)) := by
  have eo : (2 : Int) ^ (31 - (k : Int)).toNat = 2 ^ (31 - k) := by
    have : (31 - (k : Int)).toNat = 31 - k := by omega
    rw [this]
  refine' bl_cons (sm_tup (as := [.str what, .int worth]) (xs := [sO "what", sO "worth"]) (ρ' := [(sO "worth", .int worth), (sO "what", .str what), (sO "much", .bool much), (sO "k", .int k), (sO "bits", bitsAV bs), (sO "whole", .int w), (sO "made", i.av)]) ok ?v1 ?s1 rfl rfl rfl rfl rfl rfl) ?d1
  case v1 =>
    refine' ev_sub ok ?b1 ?b2 (sb_list (as := bs.map bitAV) (i := k) ok (by omega) (by omega) ?b3 (fun _ _ => rfl))
    case b1 => exact ev_lk ok hs (by walk_at "lk") (by kernel_rfl) (by kernel_rfl)
    case b2 => walk_at "ev"
    case b3 => show (bs.map bitAV)[k]? = _; rw [List.getElem?_map, hb]; rfl
  case s1 => exact .cons (sto_name (kd hs (by kernel_rfl))) (.cons (sto_name (kd hs (by kernel_rfl))) .nil)
  case d1 =>
  refine' bl_cons (sm_assign (a := .int (otherW w k)) ok ?v2 (kd hs (by kernel_rfl)) rfl rfl) ?d2
  case v2 =>
    refine' ev_eq (ev_bin ok ?b1 (ev_bin ok ev_int (ev_bin ok ev_int ?b2 op_sub) (op_pow (n := 31 - (k : Int)) (by omega) ?b4)) op_xor) ?b3
    case b1 => walk_at "ev"
    case b2 => walk_at "ev"
    case b3 => rw [eo]; rfl
    case b4 =>
      have : Builtin.Int.intBits 2 = 2 := by decide
      rw [this]; omega
  case d2 =>
  refine' bl_cons (sm_assign (a := tellAV (otherW w k)) ok ?v3 (kd hs (by kernel_rfl)) rfl ?no3) ?d3
  case v3 =>
    refine' ev_callK ok (ev_global ok (gl_told _) ok.kind (kd hs (by kernel_rfl)) (by kernel_rfl)) ?a (con_ca (lev := lev + 8) ok (con_told c.gd lev T.h0 T.h1)) (kp_told _) rfl rfl rfl
    case a => walk_at "evs"
  case no3 => unfold tellAV; split <;> rfl
  case d3 =>
  cases hf : findS (otherW w k) with
  | none =>
    have ht : tellAV (otherW w k) = .none := by unfold tellAV; rw [hf]
    rw [ht]
    refine' bl_if ok (b := false && ((much && (false && true)) && true)) ?t1 (fun h => nomatch h) (fun h => nomatch h) (fun _ => ?y1)
    case t1 =>
      refine' ts_eq (ts_boolop (ta_and ok (a := false) (b := true) ?t2 (fun h => nomatch h))) (by rfl)
      case t2 => walk_at "ts"
    case y1 =>
    refine' bl_if ok (b := what == sO "") ?t3 (fun _ => rfl) ?x3 ?y3
    case t3 => walk_at "tsq"
    case x3 =>
      intro _
      refine' bl_ret (sm_return (ev_eq (a := .bool (true || true)) (ev_or2 ok ?u1 (fun h => nomatch h)) rfl))
      case u1 => walk_at "ev"
    case y3 =>
      intro h
      obtain ⟨r', m, e, _⟩ := T.field (fun z => by rw [z, beq_self_eq_true] at h; cases h)
      rw [hf] at e; cases e
  | some r' =>
    have ht : tellAV (otherW w k) = (decR r' (otherW w k)).av := by unfold tellAV; rw [hf]
    rw [ht]
    obtain ⟨q, hq, hqk, hqc, hqe⟩ := T.told r' hf
    have hmem := findS_mem hf
    have hJ := con_enc c.gd (lev + 1) r' hmem q hq hqk (decR r' (otherW w k)) (decR_nm _ _)
    rw [if_pos hqc, hqe] at hJ
    have hnm := decR_nm r' (otherW w k)
    have hFx := T.fixed
    have hFd : what ≠ sO "" → ∃ m, (insF i).lookup what = some m ∧ decR r' (otherW w k) = setI i what (m + (if w < otherW w k then worth else 0 - worth)) := fun z => by
      obtain ⟨r2, m, e2, u1, u2⟩ := T.field z
      rw [hf] at e2
      cases e2
      exact ⟨m, u1, u2⟩
    generalize decR r' (otherW w k) = j at hJ hnm hqc hqe hFd ⊢
    generalize otherW w k = o at *
    refine' bl_if ok (b := false) ?t1 (fun h => nomatch h) (fun h => nomatch h) (fun _ => ?y1)
    case t1 =>
      refine' ts_eq (a := true && (much && ((o != o) && true))) (ts_boolop (ta_and ok ?t2 (fun _ => ta_and ok (ts_bool ?t3 rfl) (fun _ => ta_and ok (ts_cmp ok ?t4 ?t5 op_nei rfl) (fun _ => ta_and_nil))))) (by simp)
      case t2 => walk_at "ts"
      case t3 => walk_at "ev"
      case t4 =>
        refine' ev_callK ok (ev_global ok (gl_enc _) ok.kind (kd hs (by kernel_rfl)) (by kernel_rfl)) ?a (con_ca (lev := lev + 8) ok hJ) (kp_enc _) rfl rfl rfl
        case a => walk_at "evs"
      case t5 => walk_at "ev"
    case y1 =>
    refine' bl_if ok (b := what == sO "") ?t3 (fun _ => rfl) ?x3 ?y3
    case t3 => walk_at "tsq"
    case x3 =>
      intro h
      have hne := hFx (beq_iff_eq.mp h) r' hf
      have hne' : (j.nm == i.nm) = false := by rw [hnm]; exact beq_eq_false_iff_ne.mpr hne
      refine' bl_ret (sm_return (ev_eq (a := .bool (false || !(j.nm == i.nm))) (ev_or2 ok ?u1 (fun _ => ev_cmp ok ?u2 ?u3 op_nes rfl)) ?u4))
      case u1 => walk_at "ev"
      case u2 => exact at_name ok (by walk_at "ev") rfl
      case u3 => exact at_name ok (by walk_at "ev") rfl
      case u4 => rw [hne']; rfl
    case y3 =>
      intro h
      obtain ⟨m, hlm, hjs⟩ := hFd (fun z => by rw [z, beq_self_eq_true] at h; cases h)
      refine' bl_dictOwn ok (ep_ins (i := i) ok ?e1 ?e2 ?e3 ?e4 ?e5) insF_nd rfl rfl (by simp) (by simp) (kd hs (by kernel_rfl)) rfl rfl ?b
      case e1 => walk_at "ev"
      case e2 => walk_at "ev"
      case e3 => walk_at "ev"
      case e4 => walk_at "ev"
      case e5 => walk_at "ev"
      case b =>
      intro a ok
      have hs : (c.ownify a).scope = fnScope (astAt 42) := hs
      have hgd : (c.ownify a).gd = c.gd := rfl
      rw [← hgd] at hJ
      generalize c.ownify a = c at ok hs hJ ⊢
      refine' bl_cons (sm_ownset (x := sO "due") (n := m + (if w < o then worth else 0 - worth)) ok ?v1 lk_here (kd hs (by kernel_rfl)) (by kernel_rfl) ?i1 hlm (by simp) (hu_one rfl) rfl) ?d1
      case v1 =>
        refine' ev_bin ok (ev_ownget ok lk_here (kd hs (by kernel_rfl)) (by kernel_rfl) ?w1 hlm (fun _ _ => rfl)) (ev_if ok (b := decide (w < o)) ?w2 ?w3 ?w4) op_add
        case w1 => walk_at "ev"
        case w2 => walk_at "ts"
        case w3 => intro z; rw [if_pos (of_decide_eq_true z)]; walk_at "ev"
        case w4 => intro z; rw [if_neg (of_decide_eq_false z)]; walk_at "ev"
      case i1 => walk_at "ev"
      case d1 =>
      rw [setKv_insF, ← hjs]
      have hij : j.nm = i.nm := by rw [hjs]; rfl
      have hj' : j = ⟨i.nm, j.rd, j.rs1, j.rs2, j.imm, j.csr⟩ := by rw [← hij]
      refine' bl_ret (sm_return (ev_eq (a := .bool (true && PyData.eqv (.tuple ((insT j).map toPD)) (.tuple ((insT j).map toPD)))) (ev_and2 ok ?u1 (fun _ => ev_cmp ok ?u2 ?u3 (op_eqt ok rfl rfl (shaped_ins (hij ▸ hn)) (shaped_ins (hij ▸ hn))) rfl)) ?u4))
      case u1 => walk_at "ev"
      case u2 => exact ev_fields ok (by walk_at "ev") (con_ca (lev := lev + 8) ok (con_fields c.gd (lev + 7) j.nm j.rd j.rs1 j.rs2 j.imm j.csr)) rfl
      case u3 =>
        refine' ev_tuple ok (evs_cons ok ?n1 (evs_cons ok (ev_ownget ok lk_here (kd hs (by kernel_rfl)) (by kernel_rfl) ev_str lkF_rd (fun _ _ => rfl)) (evs_cons ok (ev_ownget ok lk_here (kd hs (by kernel_rfl)) (by kernel_rfl) ev_str lkF_rs1 (fun _ _ => rfl)) (evs_cons ok (ev_ownget ok lk_here (kd hs (by kernel_rfl)) (by kernel_rfl) ev_str lkF_rs2 (fun _ _ => rfl)) (evs_cons ok (ev_ownget ok lk_here (kd hs (by kernel_rfl)) (by kernel_rfl) ev_str lkF_imm (fun _ _ => rfl)) (evs_cons ok (ev_ownget ok lk_here (kd hs (by kernel_rfl)) (by kernel_rfl) ev_str lkF_csr (fun _ _ => rfl)) evs_nil rfl) rfl) rfl) rfl) rfl) rfl) (by simp)
        case n1 => rw [hij]; exact at_name ok (by walk_at "ev") rfl
      case u4 => rw [eqv_ins]; rfl
end
theorem con_tr (gd : Gd) (lev : Nat) (i : Ins) (hn : (PyData.str i.nm).canLay0 = true) (w : Int) (bs : Bits) (k : Nat) (hk : k < 32) (what : Str) (worth : Int) (hb : bs[k]? = some (what, worth)) (much : Bool) (T : TurnOk i w k what worth) : Con gd (lev + 10) (.ref 1134) [i.av, .int w, bitsAV bs, .int k, .bool much] (.ok (.bool true)) :=
  con_fn (lev := lev + 9) (as := [i.av, .int w, bitsAV bs, .int k, .bool much]) (out := .ret (.bool true)) [sO "made", sO "whole", sO "bits", sO "k", sO "much"] (show (KK gd.w.params).lookup 1134 = some (o1134 gd.w.params) by kernel_rfl) (by kernel_rfl)
    (fun s vs hl _ => by obtain ⟨a0, a1, a2, a3, a4, rfl⟩ := len5 hl; exact .of_eq (by kernel_rfl)) (by decide +kernel)
    (fun c hg ok hs hn' => tr_body ok hs i hn w bs k hk what worth hb much T) (by kernel_rfl) (by kernel_rfl) (by kernel_rfl) (by decide +kernel)
structure CS (c : Cx) (X : List Addr) (C : Addr) (σ : Loc) (h : Heap) : Prop where
  ns : ∃ m, h.Ns C m ∧ LRep (vw h X) m σ
  keep : ∀ a o, c.gd.H.get? a = some o → h.get? a = some o
  xlt : ∀ a ∈ X, ∃ o, h.get? a = some o
noncomputable abbrev Grow (h h' : Heap) : Prop := ∀ a o, h.get? a = some o → h'.get? a = some o
theorem vle_grow {X : List Addr} {h h' : Heap} (k : Grow h h') : VLe (vw h X) (vw h' X) := fun a o e => by
  unfold vw at e ⊢
  split at e
  · cases e
  · rename_i q
    rw [if_neg q]
    exact k a o e
theorem CS.grow {c X C σ h h'} (S : CS c X C σ h) (k : Grow h h') : CS c X C σ h' :=
  ⟨let ⟨m, n, r⟩ := S.ns; ⟨m, n.keeps k, fun x a e => let ⟨v, q1, q2⟩ := r x a e; ⟨v, q1, q2.mono (vle_grow k)⟩⟩, fun a o e => k a o (S.keep a o e), fun a ha => let ⟨o, e⟩ := S.xlt a ha; ⟨o, k a o e⟩⟩
noncomputable def CeJ (c : Cx) (X : List Addr) (env : Env) (C : Addr) (σ : Loc) (e : Expr) (a : AV) : Prop := ∀ h tk Q E, CS c X C σ h →
  (∀ h' tk' v, Grow h h' → Rep (vw h' X) v a → Q v (c.sh h' tk')) → wpAny c.M c.B (eval e env) Q E (c.sh h tk)
noncomputable def CtJ (c : Cx) (X : List Addr) (env : Env) (C : Addr) (σ : Loc) (e : Expr) (b : Bool) : Prop := ∀ h tk Q E, CS c X C σ h →
  (∀ h' tk', Grow h h' → Q b (c.sh h' tk')) → wpAny c.M c.B (PySem.isTrue e env (eval e env)) Q E (c.sh h tk)
noncomputable def CoJ (c : Cx) (f : Value → Value → Sem Value) (a b r : AV) : Prop := ∀ h tk Q E v u X, Rep (vw h X) v a → Rep (vw h X) u b →
  (∀ h' tk' x, Grow h h' → Rep (vw h' X) x r → Q x (c.sh h' tk')) → wpAny c.M c.B (f v u) Q E (c.sh h tk)
noncomputable def CaT (c : Cx) (env : Env) (C : Addr) (target : Expr) (a : AV) (σ : Loc) : Prop := ∀ X h tk v Q E, C ∈ X → c.gd.H.get? C = none → CS c X C [] h → Rep (vw h X) v a →
  (∀ h' tk', (∀ b o, b ≠ C → h.get? b = some o → h'.get? b = some o) → CS c X C σ h' → Q () (c.sh h' tk')) → wpAny c.M c.B (assign target env v) Q E (c.sh h tk)
noncomputable def CfJ (c : Cx) (X : List Addr) (env : Env) (C : Addr) (σ : Loc) (ifs : List Expr) (b : Bool) : Prop := ∀ h tk Q E, CS c X C σ h →
  (∀ h' tk', Grow h h' → Q b (c.sh h' tk')) → wpAny c.M c.B (forIn ifs true fun c r => if r = true then do let ok ← PySem.isTrue c env (eval c env); pure (ForInStep.yield ok) else pure (ForInStep.yield r)) Q E (c.sh h tk)
section
variable {prog : Program} {w : World} {A : Around} {R : PySem.Result → Shared → Prop}
theorem comp_loop {elt target iter : Expr} {ifs : List Expr} {scope : Scope} {pos : Pos} {it acc : Value} {env : Env} {s : Shared} (I : Nat → Shared → Prop)
    (turn : ∀ n s, I n s → wpAny (model prog w) A (pyNext it) (fun r s₁ => match r with
      | none => R (.ok .next) s₁
      | some v => wpAny (model prog w) A (letOwnedTupleGo target it v) (fun _ s₁' => wpAny (model prog w) A (assign target env v) (fun _ s₂ =>
          wpAny (model prog w) A (forIn ifs true fun c r => if r = true then do let ok ← PySem.isTrue c env (eval c env); pure (ForInStep.yield ok) else pure (ForInStep.yield r)) (fun ok s₃ =>
            if ok = true then wpAny (model prog w) A (eval elt env) (fun x s₄ =>
              wpAny (model prog w) A (call (.builtin "list.append") [acc, x]) (fun _ s₅ => ∃ m, m < n ∧ I m s₅) (notedBy (model prog w) A env fun e s' => R (.error e) s') s₄) (notedBy (model prog w) A env fun e s' => R (.error e) s') s₃
            else ∃ m, m < n ∧ I m s₃) (notedBy (model prog w) A env fun e s' => R (.error e) s') s₂) (notedBy (model prog w) A env fun e s' => R (.error e) s') s₁') (notedBy (model prog w) A env fun e s' => R (.error e) s') s₁) (notedBy (model prog w) A env fun e s' => R (.error e) s') s)
    (n : Nat) (h : I n s) : codeAny (model prog w) A (.compLoop (.ListComp elt [⟨target, iter, ifs, 0⟩] scope pos) 0 it acc env) R s := by
  refine codeAny_loop rfl I (fun n s hI => ?_) n h
  show wpAny _ A ((compTurn (.ListComp elt [⟨target, iter, ifs, 0⟩] scope pos) 0 it acc env).onRaise (fun x => do noteFrame x env; theTreesLotGoes x)) _ _ s
  refine wpAny_noted ?_
  rw [compTurn_list]
  refine wpAny_bind (wpAny_standAt (wpAny_bind (wpAny_mono (turn n s hI) (fun r s₁ h₁ => ?_) fun _ _ h' => h')))
  cases r with
  | none => exact wpAny_pure h₁
  | some v =>
    refine wpAny_bind (wpAny_mono h₁ (fun _ s₁' h₁' => ?_) fun _ _ h' => h')
    refine wpAny_bind (wpAny_mono h₁' (fun _ s₂ h₂ => wpAny_bind (wpAny_mono h₂ (fun b s₃ h₃ => ?_) fun _ _ h' => h')) fun _ _ h' => h')
    cases b with
    | false => exact wpAny_pure ⟨rfl, h₃⟩
    | true => exact wpAny_bind (wpAny_bind (wpAny_mono h₃ (fun x s₄ h₄ => wpAny_bind (wpAny_mono h₄ (fun _ s₅ h₅ => wpAny_pure (wpAny_pure ⟨rfl, h₅⟩)) fun _ _ h' => h')) fun _ _ h' => h'))
end
section
variable {c : Cx} {lev : Nat} {ρ : Loc}
theorem CS.but {X C σ h h' l} (S : CS c X C σ h) (k : ∀ a o, a ≠ l → h.get? a = some o → h'.get? a = some o) (hX : l ∈ X) (hC : l ≠ C) (hH : c.gd.H.get? l = none) (hl : ∃ o, h'.get? l = some o) : CS c X C σ h' := by
  obtain ⟨m, n, r⟩ := S.ns
  refine ⟨⟨m, n.at' fun o e => k _ o (Ne.symm hC) e, fun x a e => ?_⟩, fun a o e => k a o (fun z => by rw [z, hH] at e; cases e) (S.keep a o e), fun a ha => ?_⟩
  · obtain ⟨v, q1, q2⟩ := r x a e
    refine ⟨v, q1, q2.mono fun d o e => ?_⟩
    unfold vw at e ⊢
    split at e
    · cases e
    · rename_i q
      rw [if_neg q]
      exact k d o (fun z => q (z ▸ hX)) e
  · by_cases z : a = l
    · exact z ▸ hl
    · obtain ⟨o, e⟩ := S.xlt a ha
      exact ⟨o, k a o z e⟩
theorem CS.bare {X C σ h} (S : CS c X C σ h) : CS c X C [] h := ⟨let ⟨m, n, _⟩ := S.ns; ⟨m, n, fun x a e => by cases e⟩, S.keep, S.xlt⟩
theorem There.cs {X C σ h} (S : CS c X C σ h) : There h C := let ⟨_, n, _⟩ := S.ns; There.ns n
theorem There.seq {h : Heap} {D : Addr} {xs : Array Value} {n : Nat} (e : h.get? D = some { cls := .type "list", data := .seq xs n }) : There h D := ⟨_, e, fun vs z => by cases z⟩
theorem comp_core {elt target iter : Expr} {ifs : List Expr} {scope : Scope} {pos : Pos} {cl : List (Str × Addr)} {n : Nat} {item : Nat → AV} {kp : Nat → Bool} {el : Nat → AV} {σ : Nat → Loc} {h : Heap} {tk : Nat} {E : Value → Shared → Prop} {RR : Value → Addr → PySem.Result → Shared → Prop} (ok : c.Ok lev)
    (hcell : ∀ y ∈ scope.names, y.2 ≠ .cell) (hkind : scope.kind = .function)
    (h1 : IeS c ρ target iter n item) (hz : n ≤ 1000)
    (ht : ∀ C i, i < n → CaT c (compEnvC scope cl C c.env) C target (item i) (σ i))
    (hf : ∀ X C i, i < n → CfJ c X (compEnvC scope cl C c.env) C (σ i) ifs (kp i))
    (he : ∀ X C i, i < n → kp i = true → CeJ c X (compEnvC scope cl C c.env) C (σ i) elt (el i)) (S : St c ρ h)
    (hR : ∀ D C h3 tk3, Kp c.fr h h3 → h.get? C = none → C ∉ c.X → (∃ m, h3.Ns C m) → Rep (vw h3 (C :: c.X)) (.ref D) (.list (((List.range n).filter kp).map el)) → RR (.ref D) C (.ok .next) (c.sh h3 tk3)) :
    wpAny c.M c.B (eval iter c.env) (fun x s₁ => wpAny c.M c.B (pyIter x) (fun it s₂ => wpAny c.M c.B (newList []) (fun acc s₃ =>
      wpAny c.M c.B (newFunctionEnv scope c.env.globals cl [] c.env.qual none .none (some c.env)) (fun cenv s₄ =>
        codeAny c.M c.B (.compStart (.ListComp elt [⟨target, iter, ifs, 0⟩] scope pos) 0 it acc { cenv with scope := relabel scope c.env }) (RR acc cenv.locals) s₄) E s₃) E s₂) E s₁) E (c.sh h tk) := by
  refine h1 h tk _ _ S fun h1' tk1 it I k1 hn hl TT self => ?_
  have S1 := S.kp ok k1
  refine wpAny_newObj_type (wpAny_newFunctionEnv hcell (by intro y hy; simp at hy) (fun h2 hns hsb => ?_) hkind)
  dsimp only at hns hsb ⊢
  have hDX : h1'.objs.size ∉ c.X := fun z => Nat.lt_irrefl _ (S1.lt _ z)
  generalize hH : h1'.push { cls := .type "list", dict := none, data := .seq ([] : List Value).toArray } = H1 at hns hsb ⊢
  have szC : H1.objs.size = h1'.objs.size + 1 := by rw [← hH, Heap.size_push]
  have hDC : h1'.objs.size ≠ H1.objs.size := by rw [szC]; exact Nat.ne_of_lt (Nat.lt_succ_self _)
  have hlt1 : ∀ a o, h1'.get? a = some o → a ≠ h1'.objs.size ∧ a ≠ H1.objs.size := fun a o e => ⟨Nat.ne_of_lt (Heap.lt_size e), Nat.ne_of_lt (by rw [szC]; exact Nat.lt_succ_of_lt (Heap.lt_size e))⟩
  have old : Grow h1' h2 := fun b o e => hsb.extBut b o (hlt1 b o e).2 (Heap.get?_push_of_some _ (hH ▸ Heap.get?_push_of_some _ e))
  have hD2 : h2.get? h1'.objs.size = some { cls := .type "list", data := .seq #[] } := hsb.extBut _ _ hDC (Heap.get?_push_of_some _ (hH ▸ Heap.get?_push_size _ rfl))
  have nD : h1'.get? h1'.objs.size = none := new_none _
  have nC : h1'.get? H1.objs.size = none := Heap.get?_none_of_le (by rw [szC]; exact Nat.le_succ _)
  generalize h1'.objs.size = D at *
  generalize H1.objs.size = C at *
  have hit1 : it ≠ D ∧ it ≠ C := let ⟨o, e⟩ := hl; hlt1 it o e
  have hlt0 : ∀ a o, h.get? a = some o → a ≠ D ∧ a ≠ C ∧ a ≠ it := fun a o e => by
    obtain ⟨sl, e'⟩ := k1.2.2 a o e
    exact ⟨(hlt1 a _ e').1, (hlt1 a _ e').2, fun z => by rw [z, hn] at e; cases e⟩
  have hHn : ∀ a, a = D ∨ a = C ∨ a = it → c.gd.H.get? a = none := fun a z => by
    cases q : c.gd.H.get? a with
    | none => rfl
    | some o =>
      have := hlt0 a o (S.keep a o q)
      rcases z with z | z | z
      · exact absurd z this.1
      · exact absurd z this.2.1
      · exact absurd z this.2.2
  obtain ⟨T, T0⟩ := TT [C, D] (fun a ha => by
    rcases List.mem_cons.mp ha with rfl | ha
    · exact nC
    · rw [List.mem_singleton.mp ha]; exact nD)
  generalize hX : (c.hideO it [C, D]).X = X at *
  have memX : ∀ a, a ∈ X ↔ a = C ∨ a = D ∨ a = it ∨ a ∈ c.X := fun a => by rw [← hX]; show a ∈ C :: D :: it :: c.X ↔ _; simp
  have hCS2 : CS c X C [] h2 := ⟨⟨_, hns, fun x a e => by cases e⟩, fun a o e => old a o (k1.2.1 a o (fun z => ok.hX a o e (ok.frX a z)) (S.keep a o e)), fun a ha => by
    rcases (memX a).mp ha with rfl | rfl | rfl | z
    · obtain ⟨o, _, _, e, _⟩ := hns; exact ⟨o, e⟩
    · exact ⟨_, hD2⟩
    · obtain ⟨o, e⟩ := hl; exact ⟨o, old _ o e⟩
    · obtain ⟨o, e⟩ := S1.xlt a z; exact ⟨o, old a o e⟩⟩
  have loop : ∀ s3 : Shared, s3 = c.sh h2 (tk1 + 0) → codeAny c.M c.B (.compLoop (.ListComp elt [⟨target, iter, ifs, 0⟩] scope pos) 0 (.ref it) (.ref D) (compEnvC scope cl C c.env)) (RR (.ref D) C) s3 := by
    rintro s3 rfl
    refine comp_loop (fun k s => ∃ i h' tk' ys, s = c.sh h' tk' ∧ i ≤ n ∧ k = n + 1 - i ∧ I [C, D] i h' ∧ CS c X C [] h' ∧ h'.get? D = some { cls := .type "list", data := .seq (List.toArray ys) ys.length } ∧ ys.length ≤ i ∧
        Reps (vw h' X) ys (((List.range i).filter kp).map el) ∧ (∀ a o, a ≠ D → a ≠ C → a ≠ it → h1'.get? a = some o → h'.get? a = some o)) ?_ (n + 1) ⟨0, h2, tk1, [], rfl, Nat.zero_le _, rfl, T0 h2 old, hCS2, hD2, Nat.le_refl _, .nil, fun a o _ _ _ e => old a o e⟩
    rintro k s ⟨i, h', tk', ys, rfl, hi, rfl, Ii, Si, hDi, hyl, rs, kk⟩
    by_cases hin : i < n
    · refine next_some (T.step i h' tk' _ _ hin Ii (fun a ha => Si.xlt a (by rw [← hX]; exact ha)) fun h3 tk3 v kb hl3 I3 r => ?_)
      rw [hX] at r
      have S3 : CS c X C [] h3 := Si.but kb ((memX it).mpr (by simp)) hit1.2 (hHn it (by simp)) hl3
      have hD3 := kb D _ (Ne.symm hit1.1) hDi
      have m3 : VLe (vw h' X) (vw h3 X) := fun a o e => by
        unfold vw at e ⊢
        split at e
        · cases e
        · rename_i q
          rw [if_neg q]
          exact kb a o (fun z => q ((memX a).mpr (by simp [z]))) e
      refine ht C i hin X h3 tk3 v _ _ ((memX C).mpr (.inl rfl)) (hHn C (by simp)) S3 r fun h4 tk4 k4 S4 => ?_
      have hD4 := k4 D _ hDC hD3
      have m4 : VLe (vw h3 X) (vw h4 X) := fun a o e => by
        unfold vw at e ⊢
        split at e
        · cases e
        · rename_i q
          rw [if_neg q]
          exact k4 a o (fun z => q ((memX a).mpr (by simp [z]))) e
      refine hf X C i hin h4 tk4 _ _ S4 fun h5 tk5 k5 => ?_
      have S5 := S4.grow k5
      have hD5 := k5 D _ hD4
      have kps : ∀ h6, (∀ a o, a ≠ D → h5.get? a = some o → h6.get? a = some o) → There h6 D → There h6 C → KpS (c.hideO it [C, D]) h3 h6 := fun h6 q1 q2 q3 => by
        have al : ∀ a o, a ≠ C → a ≠ D → h3.get? a = some o → h6.get? a = some o := fun a o n1 n2 e => q1 a o n2 (k5 a o (k4 a o n1 e))
        refine ⟨fun a ⟨o, e, nf⟩ => ?_, fun a o _ n' e => al a o (fun z => n' (z ▸ .head _)) (fun z => n' (z ▸ .tail _ (.head _))) e, fun a o _ n' e => ⟨o.slots, al a o (fun z => n' (z ▸ .head _)) (fun z => n' (z ▸ .tail _ (.head _))) e⟩⟩
        by_cases z1 : a = C
        · exact z1 ▸ q3
        · by_cases z2 : a = D
          · exact z2 ▸ q2
          · exact ⟨o, al a o z1 z2 e, nf⟩
      have kk5 : ∀ a o, a ≠ D → a ≠ C → a ≠ it → h1'.get? a = some o → h5.get? a = some o := fun a o n1 n2 n3 e => k5 a o (k4 a o n2 (kb a o n3 (kk a o n1 n2 n3 e)))
      have ran : ((List.range (i + 1)).filter kp).map el = ((List.range i).filter kp).map el ++ (if kp i then [el i] else []) := by
        rw [List.range_succ, List.filter_append, List.map_append]
        congr 1
        cases q : kp i <;> simp [q]
      cases hkp : kp i with
      | false =>
        rw [if_neg (by decide)]
        refine ⟨n + 1 - (i + 1), by omega, i + 1, h5, tk5, ys, rfl, hin, rfl, T.keep _ _ _ I3 (kps h5 (fun _ _ _ e => e) (There.seq hD5) (There.cs S5)), S5.bare, hD5, by omega, ?_, kk5⟩
        rw [ran, hkp, if_neg (by decide), List.append_nil]
        exact ((rs.mono m3).mono m4).mono (vle_grow k5)
      | true =>
        rw [if_pos rfl]
        refine he X C i hin hkp h5 tk5 _ _ S5 fun h6 tk6 y k6 r6 => ?_
        have S6 := S5.grow k6
        have hD6 := k6 D _ hD5
        refine append_at (s := c.sh h6 tk6) hD6 (fun h7 hs7 hD7 => ?_) (by rw [List.size_toArray, sizeLine_eq]; omega)
        have kb7 : ∀ a o, a ≠ D → h6.get? a = some o → h7.get? a = some o := fun a o n1 e => (hs7.2 a n1).trans e
        have S7 : CS c X C [] h7 := S6.bare.but kb7 ((memX D).mpr (by simp)) hDC (hHn D (by simp)) ⟨_, hD7⟩
        have m7 : VLe (vw h6 X) (vw h7 X) := fun a o e => by
          unfold vw at e ⊢
          split at e
          · cases e
          · rename_i q
            rw [if_neg q]
            exact kb7 a o (fun z => q ((memX a).mpr (by simp [z]))) e
        refine ⟨n + 1 - (i + 1), by omega, i + 1, h7, tk6, ys ++ [y], rfl, hin, rfl, T.keep _ _ _ I3 (kps h7 (fun a o n1 e => kb7 a o n1 (k6 a o e)) (There.seq hD7) (There.cs S7)), S7, ?_, by rw [List.length_append, List.length_singleton]; omega, ?_, fun a o n1 n2 n3 e => kb7 a o n1 (k6 a o (kk5 a o n1 n2 n3 e))⟩
        · rw [hD7]; simp
        · rw [ran, hkp, if_pos rfl]
          exact (((((rs.mono m3).mono m4).mono (vle_grow k5)).mono (vle_grow k6)).append (.cons r6 .nil)).mono m7
    · obtain rfl : i = n := Nat.le_antisymm hi (Nat.not_lt.mp hin)
      refine next_none (T.done h' tk' _ _ Ii fun h3 tk3 kb => ?_)
      obtain ⟨m, hns', _⟩ := Si.ns
      have al : ∀ a o, h.get? a = some o → ∀ o', h1'.get? a = some o' → h3.get? a = some o' := fun a o e o' e' => by
        obtain ⟨n1, n2, n3⟩ := hlt0 a o e
        exact kb a o' n3 (kk a o' n1 n2 n3 e')
      have hCX : C ∉ c.X := fun z => by obtain ⟨o, e⟩ := S1.xlt C z; rw [nC] at e; cases e
      refine hR D C h3 tk3 ⟨fun a ⟨o, e, nf⟩ => ?_, fun a o nf e => al a o e o (k1.2.1 a o nf e), fun a o e => ?_⟩ (none_back k1 nC) hCX ⟨m, hns'.at' fun o e => kb _ o (Ne.symm hit1.2) e⟩ (.list (n := ys.length) (o := { cls := .type "list", data := .seq (List.toArray ys) ys.length }) ?_ rfl rfl (rs.mono fun a o e => ?_))
      · obtain ⟨o', e', nf'⟩ := k1.1 a ⟨o, e, nf⟩
        exact ⟨o', al a o e o' e', nf'⟩
      · obtain ⟨sl, e'⟩ := k1.2.2 a o e
        exact ⟨sl, al a o e _ e'⟩
      · unfold vw
        rw [if_neg (show ¬ D ∈ C :: c.X from fun z => (List.mem_cons.mp z).elim hDC hDX)]
        exact kb D _ (Ne.symm hit1.1) hDi
      · have aX := vw_not e
        unfold vw
        rw [if_neg (show ¬ a ∈ C :: c.X from fun z => aX ((memX a).mpr ((List.mem_cons.mp z).elim (fun z => .inl z) fun z => .inr (.inr (.inr z)))))]
        exact kb a o (fun z => aX ((memX a).mpr (by simp [z]))) (vw_ge e)
  exact codeAny_compStart_list (loop _ rfl) (self [C, D] 0 _ _ _ _ (T0 h2 old) (loop _ rfl))
theorem kp_but {h h3 h4 : Heap} {C : Addr} (k : Kp c.fr h h3) (hn : h.get? C = none) (hs : Heap.SameBut C h3 h4) : Kp c.fr h h4 := by
  have ne : ∀ a o, h.get? a = some o → a ≠ C := fun a o e z => by rw [z, hn] at e; cases e
  refine ⟨fun a ⟨o, e, nf⟩ => ?_, fun a o nf e => (hs.2 a (ne a o e)).trans (k.2.1 a o nf e), fun a o e => ?_⟩
  · obtain ⟨o', e', nf'⟩ := k.1 a ⟨o, e, nf⟩
    exact ⟨o', (hs.2 a (ne a o e)).trans e', nf'⟩
  · obtain ⟨sl, e'⟩ := k.2.2 a o e
    exact ⟨sl, (hs.2 a (ne a o e)).trans e'⟩
theorem vle_but {X : List Addr} {h3 h4 : Heap} {C : Addr} (hs : Heap.SameBut C h3 h4) : VLe (vw h3 (C :: X)) (vw h4 X) := fun a o e => by
  have aX := vw_not e
  unfold vw
  rw [if_neg (show ¬ a ∈ X from fun z => aX (.tail _ z))]
  exact (hs.2 a (fun z => aX (z ▸ .head _))).trans (vw_ge e)
theorem ev_comp {elt target iter : Expr} {ifs : List Expr} {scope : Scope} {pos : Pos} {cl : List (Str × Addr)} {n : Nat} {item : Nat → AV} {kp : Nat → Bool} {el : Nat → AV} {σ : Nat → Loc} {out : List AV} (ok : c.Ok lev)
    (hclos : closureFor scope c.env = pure cl) (hcell : ∀ y ∈ scope.names, y.2 ≠ .cell) (hkind : scope.kind = .function) (hnames : ∀ y ∈ scope.names, y.2 = .local → scope.names.lookup y.1 = some .local)
    (h1 : IeS c ρ target iter n item) (hs : ∀ x, foldedSetIterable iter c.env x = pure x) (hz : n ≤ 1000)
    (ht : ∀ C i, i < n → CaT c (compEnvC scope cl C c.env) C target (item i) (σ i))
    (hf : ∀ X C i, i < n → CfJ c X (compEnvC scope cl C c.env) C (σ i) ifs (kp i))
    (he : ∀ X C i, i < n → kp i = true → CeJ c X (compEnvC scope cl C c.env) C (σ i) elt (el i)) (ho : ((List.range n).filter kp).map el = out) :
    EvJ c ρ (.ListComp elt [⟨target, iter, ifs, 0⟩] scope pos) (.list out) := fun h tk Q E S kq => by
  subst ho
  rw [eval_ListComp]
  refine wpAny_comprehension_free (use := none) rfl hs hclos hkind hnames ?_
  refine comp_core (RR := fun acc C => compPost c.M c.B E none Q acc C) ok hcell hkind h1 hz ht hf he S fun D C h3 tk3 k3 hn hX hm r => ?_
  obtain ⟨m, hm⟩ := hm
  exact ⟨m, hm, fun h4 hs4 => kq h4 tk3 _ (kp_but k3 hn hs4) (r.mono (vle_but hs4))⟩
theorem sm_comp {elt target iter : Expr} {ifs : List Expr} {scope : Scope} {pos yp sp : Pos} {y : Str} {cl : List (Str × Addr)} {n : Nat} {item : Nat → AV} {kp : Nat → Bool} {el : Nat → AV} {σ : Nat → Loc} {out : List AV} (ok : c.Ok lev)
    (hsw : swapsWith (.ListComp elt [⟨target, iter, ifs, 0⟩] scope pos) (some (.Name y yp)) sp.line c.env = pure true) (hy : c.env.kindOf y = some .local)
    (hclos : closureFor scope c.env = pure cl) (hcell : ∀ y ∈ scope.names, y.2 ≠ .cell) (hkind : scope.kind = .function) (hnames : ∀ y ∈ scope.names, y.2 = .local → scope.names.lookup y.1 = some .local)
    (h1 : IeS c ρ target iter n item) (hs : ∀ x, foldedSetIterable iter c.env x = pure x) (hz : n ≤ 1000)
    (ht : ∀ C i, i < n → CaT c (compEnvC scope cl C c.env) C target (item i) (σ i))
    (hf : ∀ X C i, i < n → CfJ c X (compEnvC scope cl C c.env) C (σ i) ifs (kp i))
    (he : ∀ X C i, i < n → kp i = true → CeJ c X (compEnvC scope cl C c.env) C (σ i) elt (el i)) (ho : ((List.range n).filter kp).map el = out) :
    SmJ c ρ (.Assign [.Name y yp] (.ListComp elt [⟨target, iter, ifs, 0⟩] scope pos) sp) (.nxt ((y, .list out) :: ρ)) := fun h tk Q E S kq => by
  subst ho
  rw [exec_Assign_Name_used _ _ _ _ hsw]
  refine wpAny_bind (wpAny_standAt (wpAny_bind ?_))
  show wpAny _ _ (do let _ ← comprehension (.ListComp elt [⟨target, iter, ifs, 0⟩] scope pos) scope c.env _ (newList []) false (eval iter c.env) (some (assign (.Name y yp) c.env))) _ _ _
  refine wpAny_bind (wpAny_mono (wpAny_comprehension_free (use := some (assign (.Name y yp) c.env)) (Q := fun _ s' => Q .next s') rfl hs hclos hkind hnames ?_) (fun _ s' hq => wpAny_pure (wpAny_pure hq)) fun _ _ e => e)
  refine comp_core (RR := fun acc C => compPost c.M c.B E (some (assign (.Name y yp) c.env)) (fun _ s' => Q .next s') acc C) ok hcell hkind h1 hz ht hf he S fun D C h3 tk3 k3 hn hX hm r => ?_
  obtain ⟨m, hm⟩ := hm
  have hl : ∃ o, h3.get? C = some o := let ⟨o, _, _, e, _⟩ := hm; ⟨o, e⟩
  have hH : c.gd.H.get? C = none := by
    cases q : c.gd.H.get? C with
    | none => rfl
    | some o => rw [S.keep C o q] at hn; cases hn
  have hf' : C ∉ c.fr := fun z => hX (ok.frX _ z)
  have ho' : C ∉ c.own := fun z => hX (ok.ownX _ z)
  have S3 : St (c.hide C) ρ h3 := S.hide ok k3 hn hl
  show wpAny _ _ (assign (.Name y yp) c.env (.ref D)) _ _ _
  refine assign_Name (store_name (c := c.hide C) (ok.hide hH) S3 (a := .list _) r rfl hy fun h4 tk4 k4 S4 => ?_)
  have k4' : KpS c h3 h4 := k4
  refine ⟨m, hm.at' fun o e => k4'.2.1 C o hf' ho' e, fun h5 hs5 => ?_⟩
  refine kq h5 tk4 ?_ (S4.unhideBut ok (fun a o n e => (hs5.2 a n).trans e) hf' hX hH)
  exact (k3.s.trans k4').but hn fun b o n e => (hs5.2 b n).trans e
end
theorem sw2_scope {c : Cx} {sc : Scope} {v : Expr} {t : Option Expr} {l : Nat} {b : Bool} (hs : c.scope = sc) (h : swapsWith v t l (envOf (sO "") sc 0 0 .none) = pure b) : swapsWith v t l c.env = pure b := by
  rw [← h]
  subst hs
  rfl
section
variable {c : Cx} {lev : Nat} {ρ : Loc} {X : List Addr} {C : Addr} {σ : Loc} {scope : Scope} {cl : List (Str × Addr)}
theorem kdc {sc : Scope} {x : Str} {k : NameKind} (hs : c.scope = sc) (h : (relabel scope (envOf (sO "") sc 0 0 .none)).names.lookup x = some k) : (compEnvC scope cl C c.env).kindOf x = some k := by
  subst hs; exact h
theorem ce_name {x : Str} {p : Pos} {a : AV} (hl : σ.lookup x = some a) (hk : scope.kind = .function) (hx : (compEnvC scope cl C c.env).kindOf x = some .local) (hd : (x == ("__debug__" : Str)) = false) : CeJ c X (compEnvC scope cl C c.env) C σ (.Name x p) a := fun h tk Q E S k => by
  obtain ⟨m, hn, hr⟩ := S.ns
  obtain ⟨v, e1, e2⟩ := hr x a hl
  exact wpAny_Name (wpAny_loadName_local hk hx hn e1 (k h tk v (fun _ _ e => e) e2)) hd
theorem ce_cell {x : Str} {p : Pos} {a : AV} {v : Value} {ca : Addr} (hc : cl.lookup x = some ca) (hv : c.gd.H.IsCell ca (some v)) (r : ∀ V, Rep V v a) (hk : scope.kind = .function) (hx : (compEnvC scope cl C c.env).kindOf x = some .cell) (hd : (x == ("__debug__" : Str)) = false) : CeJ c X (compEnvC scope cl C c.env) C σ (.Name x p) a := fun h tk Q E S k =>
  wpAny_Name (wpAny_loadName_cell hk hx hc (hv.keeps S.keep) (k h tk v (fun _ _ e => e) (r _))) hd
theorem ce_int {n : Int} {k p} : CeJ c X (compEnvC scope cl C c.env) C σ (.Constant (.int n) k p) (.int n) := fun h tk Q E S k => wpAny_Constant_int (k _ _ _ (fun _ _ e => e) .int)
theorem ce_cmp {l r : Expr} {op p a b x} (h1 : CeJ c X (compEnvC scope cl C c.env) C σ l a) (h2 : CeJ c X (compEnvC scope cl C c.env) C σ r b) (h3 : CoJ c (compareOp op) a b (.bool x)) (hm : behindInMarks op r = false) : CtJ c X (compEnvC scope cl C c.env) C σ (.Compare l [op] [r] p) x := fun h tk Q E S k => by
  refine wpAny_isTrue_Compare1 (h1 h tk _ _ S fun h' tk' v k1 r1 => ?_) hm
  have S1 := S.grow k1
  refine h2 h' tk' _ _ S1 fun h'' tk'' u k2 r2 => ?_
  refine h3 h'' tk'' _ _ v u X (r1.mono (vle_grow k2)) r2 fun h3 tk3 x k3 r3 => ?_
  obtain rfl := r3.i
  exact wpAny_truthy_bool (k _ _ fun a o e => k3 a o (k2 a o (k1 a o e)))
theorem ce_bin {l r : Expr} {op p a b x} (h1 : CeJ c X (compEnvC scope cl C c.env) C σ l a) (h2 : CeJ c X (compEnvC scope cl C c.env) C σ r b) (h3 : CoJ c (binaryOp op) a b x) : CeJ c X (compEnvC scope cl C c.env) C σ (.BinOp l op r p) x := fun h tk Q E S k => by
  refine wpAny_BinOp (h1 h tk _ _ S fun h' tk' v k1 r1 => ?_)
  refine h2 h' tk' _ _ (S.grow k1) fun h'' tk'' u k2 r2 => ?_
  exact h3 h'' tk'' _ _ v u X (r1.mono (vle_grow k2)) r2 fun h3 tk3 x k3 r3 => k _ _ _ (fun a o e => k3 a o (k2 a o (k1 a o e))) r3
theorem ce_if {t e1 e2 : Expr} {b a p} (h0 : CtJ c X (compEnvC scope cl C c.env) C σ t b) (h1 : b = true → CeJ c X (compEnvC scope cl C c.env) C σ e1 a) (h2 : b = false → CeJ c X (compEnvC scope cl C c.env) C σ e2 a) : CeJ c X (compEnvC scope cl C c.env) C σ (.IfExp t e1 e2 p) a := fun h tk Q E S k =>
  wpAny_IfExp (h0 h tk _ _ S fun h' tk' k1 => by
    cases b
    · exact h2 rfl _ _ _ _ (S.grow k1) fun h'' tk'' v k2 r => k _ _ _ (fun a o e => k2 a o (k1 a o e)) r
    · exact h1 rfl _ _ _ _ (S.grow k1) fun h'' tk'' v k2 r => k _ _ _ (fun a o e => k2 a o (k1 a o e)) r)
theorem ce_neg {e : Expr} {a : Int} {p} (h1 : CeJ c X (compEnvC scope cl C c.env) C σ e (.int a)) : CeJ c X (compEnvC scope cl C c.env) C σ (.UnaryOp .USub e p) (.int (-a)) := fun h tk Q E S k =>
  wpAny_UnaryOp (h1 h tk _ _ S fun h' tk' v k1 r1 => by obtain ⟨_, rfl⟩ := r1.i; exact PyProof.Rows.neg_int (k _ _ _ k1 .int))
theorem co_eqi {a b : Int} : CoJ c (compareOp .Eq) (.int a) (.int b) (.bool (a == b)) := fun h tk Q E v u X r1 r2 k => by
  obtain ⟨_, rfl⟩ := r1.i; obtain ⟨_, rfl⟩ := r2.i; exact PyProof.Rows.eq_int (k _ _ _ (fun _ _ e => e) .bool)
theorem co_eqs {a b : Str} : CoJ c (compareOp .Eq) (.str a) (.str b) (.bool (a == b)) := fun h tk Q E v u X r1 r2 k => by
  obtain ⟨_, rfl⟩ := r1.i; obtain ⟨_, rfl⟩ := r2.i; exact eq_str (k _ _ _ (fun _ _ e => e) .bool)
theorem co_lt {a b : Int} : CoJ c (compareOp .Lt) (.int a) (.int b) (.bool (decide (a < b))) := fun h tk Q E v u X r1 r2 k => by
  obtain ⟨_, rfl⟩ := r1.i; obtain ⟨_, rfl⟩ := r2.i; exact PyProof.Rows.lt_int (k _ _ _ (fun _ _ e => e) .bool)
theorem co_gt {a b : Int} : CoJ c (compareOp .Gt) (.int a) (.int b) (.bool (decide (b < a))) := fun h tk Q E v u X r1 r2 k => by
  obtain ⟨_, rfl⟩ := r1.i; obtain ⟨_, rfl⟩ := r2.i; exact PyProof.Rows.gt_int (k _ _ _ (fun _ _ e => e) .bool)
theorem co_pow {a n : Int} (hn : 0 ≤ n) (hz : (Builtin.Int.intBits a : Int) * n ≤ 2 ^ 27) : CoJ c (binaryOp .Pow) (.int a) (.int n) (.int (a ^ n.toNat)) := fun h tk Q E v u X r1 r2 k => by
  obtain ⟨_, rfl⟩ := r1.i; obtain ⟨_, rfl⟩ := r2.i; exact pow_int hn hz (k _ _ _ (fun _ _ e => e) .int)
theorem ce_tup2 {e1 e2 : Expr} {n : Nat} {p a b} (h1 : CeJ c X (compEnvC scope cl C c.env) C σ e1 a) (h2 : CeJ c X (compEnvC scope cl C c.env) C σ e2 b)
    (hs1 : starEach [e1, e2] (compEnvC scope cl C c.env) = (false, eval e1 (compEnvC scope cl C c.env)) :: starEach [e2] (compEnvC scope cl C c.env)) (hs2 : starEach [e2] (compEnvC scope cl C c.env) = (false, eval e2 (compEnvC scope cl C c.env)) :: starEach [] (compEnvC scope cl C c.env)) :
    CeJ c X (compEnvC scope cl C c.env) C σ (.Tuple [e1, e2] n p) (.tup [a, b]) := fun h tk Q E S k => by
  refine Tuple_ (args_cons (h1 h tk _ _ S fun h' tk' v k1 r1 => args_cons (h2 h' tk' _ _ (S.grow k1) fun h2 tk2 u k2 r2 => args_nil ?_) hs2) hs1)
  have S2 := (S.grow k1).grow k2
  refine wpAny_newTuple (k _ _ _ (fun a o e => Heap.get?_push_of_some _ (k2 a o (k1 a o e))) ?_) (by rw [sizeLine_eq]; simp)
  have g : Grow h2 (h2.push { cls := Value.type "tuple", data := Data.seq [v, u].toArray }) := fun a o e => Heap.get?_push_of_some _ e
  exact .tup (vw_push (fun a ha => let ⟨o, e⟩ := S2.xlt a ha; Heap.lt_size e) _ rfl) rfl rfl (.cons ((r1.mono (vle_grow k2)).mono (vle_grow g)) (.cons (r2.mono (vle_grow g)) .nil))
theorem ce_abs {e : Expr} {a : Int} {np p : Pos} (ok : c.Ok lev) (h1 : CeJ c X (compEnvC scope cl C c.env) C σ e (.int a)) (hk : scope.kind = .function) (hx : (compEnvC scope cl C c.env).kindOf (Str.ofString "abs") = some .globalImplicit) (hg : nsIn (KK c.gd.w.params) mainGlobals (Str.ofString "abs") = some none)
    (he : eval (.Call (.Name (Str.ofString "abs") np) [e] [] p) (compEnvC scope cl C c.env) = (do callWith p (← eval (.Name (Str.ofString "abs") np) (compEnvC scope cl C c.env)) [] (backTo p (starEach [e] (compEnvC scope cl C c.env))) (backToKw p (keywordEach [] (compEnvC scope cl C c.env)))))
    (hs : starEach [e] (compEnvC scope cl C c.env) = (false, eval e (compEnvC scope cl C c.env)) :: starEach [] (compEnvC scope cl C c.env)) :
    CeJ c X (compEnvC scope cl C c.env) C σ (.Call (.Name (Str.ofString "abs") np) [e] [] p) (.int (if a < 0 then -a else a)) := fun h tk Q E S k => by
  have G := ok.gr.keeps S.keep
  refine Call_ (Name_function_global (env := compEnvC scope cl C c.env) hk hx (loadGlobal_builtin (env := compEnvC scope cl C c.env) G.g (ns_none_of G.kx G.g hg) G.b ((G.builtins _ (by decide +kernel)).trans (show bootBuiltins (Str.ofString "abs") = some (.builtin "abs") by decide +kernel)) ?_) (by kernel_rfl)) he
  refine callWith_builtin1 (args_cons (h1 h tk _ _ S fun h' tk' v k1 r1 => args_nil ?_) hs) hs rfl
  obtain ⟨_, rfl⟩ := r1.i
  exact call_abs_int (s := c.sh h' tk') fun u tk2 => k h' tk2 _ k1 .int
theorem ce_attrS {x attr : Str} {xp p : Pos} {a : Addr} {s : Str} (ok : c.Ok lev) (h1 : CeJ c X (compEnvC scope cl C c.env) C σ (.Name x xp) (.glob (.ref a))) (h2 : strIs s (attrK (KK c.gd.w.params) a attr) = true)
    (he : eval (.Attribute (.Name x xp) attr p) (compEnvC scope cl C c.env) = (do let o ← eval (.Name x xp) (compEnvC scope cl C c.env); standAt p.atName; let r ← holding [o] (getAttr o attr true); letTemporaryGo (.Name x xp) o r; pure r)) : CeJ c X (compEnvC scope cl C c.env) C σ (.Attribute (.Name x xp) attr p) (.str s) := fun h tk Q E S k => by
  obtain ⟨t, e⟩ := strIs_of h2
  refine Attribute_Name_ (h1 h tk _ _ S fun h' tk' v k1 r1 => ?_) he
  obtain rfl := r1.i
  exact attr_of (ok.gr.keeps (S.grow k1).keep).kx e (k _ _ _ k1 .str)
theorem cs_store {x : Str} {a : AV} {v : Value} {h : Heap} {tk : Nat} {Q : Unit → Shared → Prop} {E} (hk : scope.kind = .function) (hx : (compEnvC scope cl C c.env).kindOf x = some .local) (hC : C ∈ X) (hH : c.gd.H.get? C = none) (S : CS c X C σ h) (r : Rep (vw h X) v a)
    (k : ∀ h' tk', (∀ b o, b ≠ C → h.get? b = some o → h'.get? b = some o) → CS c X C ((x, a) :: σ) h' → Q () (c.sh h' tk')) : wpAny c.M c.B (storeName (compEnvC scope cl C c.env) x v) Q E (c.sh h tk) := by
  obtain ⟨m, hn, hr⟩ := S.ns
  refine wpAny_storeName_local hx hn (fun h' hn' hs => ?_) (by show ((relabel scope c.env).kind == .class || ((relabel scope c.env).kind == .module && _)) = false; rw [show (relabel scope c.env).kind = scope.kind from rfl, hk]; rfl)
  have kb : ∀ b o, b ≠ C → h.get? b = some o → h'.get? b = some o := fun b o n e => (hs.2 b n).trans e
  have mono : VLe (vw h X) (vw h' X) := fun d o e => by
    have := vw_not e
    unfold vw
    rw [if_neg this]
    exact kb d o (fun z => this (z ▸ hC)) (vw_ge e)
  refine k h' _ kb ⟨⟨_, hn', fun y b e => ?_⟩, fun b o e => kb b o (fun z => by rw [z, hH] at e; cases e) (S.keep b o e), fun b hb => ?_⟩
  · rw [List.lookup_cons] at e
    split at e
    · rename_i q
      cases e
      exact ⟨v, by rw [if_pos (beq_iff_eq.mp q)], r.mono mono⟩
    · rename_i q
      obtain ⟨u, e1, e2⟩ := hr y b e
      exact ⟨u, by rw [if_neg (fun z => by rw [z, beq_self_eq_true] at q; cases q)]; exact e1, e2.mono mono⟩
  · by_cases z : b = C
    · obtain ⟨o', _, _, q', _⟩ := hn'
      exact z ▸ ⟨o', q'⟩
    · obtain ⟨o, e⟩ := S.xlt b hb
      exact ⟨o, kb b o z e⟩
theorem ct_name {x : Str} {p : Pos} {a : AV} (hk : scope.kind = .function) (hx : (compEnvC scope cl C c.env).kindOf x = some .local) : CaT c (compEnvC scope cl C c.env) C (.Name x p) a [(x, a)] := fun X h tk v Q E hC hH S r k =>
  assign_Name (cs_store hk hx hC hH S r k)
theorem ct_pair {x y : Str} {p1 p2 p : Pos} {n : Nat} {a b : AV} (ok : c.Ok lev) (hk : scope.kind = .function) (hx : (compEnvC scope cl C c.env).kindOf x = some .local) (hy : (compEnvC scope cl C c.env).kindOf y = some .local) : CaT c (compEnvC scope cl C c.env) C (.Tuple [.Name x p1, .Name y p2] n p) (.tup [a, b]) [(y, b), (x, a)] := fun X h tk v Q E hC hH S r k => by
  obtain ⟨t, vs, rfl, it, rs⟩ := isTup_of (V := fun _ => none) r
  refine assign_Tuple_tuple (s := c.sh h tk) (show c.B.handled = none from ok.hand) it (by rw [List.size_toArray, rs.len]; rfl) rfl fun h' he => ?_
  have g : Grow h h' := fun a o e => he a o (Nat.ne_of_lt (Heap.lt_size e)) e
  replace rs := rs.i; obtain ⟨_, _, rfl, r1, rs⟩ := rs
  replace rs := rs.i; obtain ⟨_, _, rfl, r2, rs⟩ := rs
  obtain rfl := rs.i
  have S1 := S.grow g
  refine assignInOrder_cons (assign_Name (cs_store hk hx hC hH S1 (r1.mono (vle_grow g)) fun h2 tk2 k2 S2 => ?_))
  have m2 : VLe (vw h' X) (vw h2 X) := fun d o e => by
    have := vw_not e
    unfold vw
    rw [if_neg this]
    exact k2 d o (fun z => this (z ▸ hC)) (vw_ge e)
  refine assignInOrder_cons (assign_Name (cs_store hk hy hC hH S2 ((r2.mono (vle_grow g)).mono m2) fun h3 tk3 k3 S3 => ?_))
  exact assignInOrder_nil (k h3 tk3 (fun b o n e => k3 b o n (k2 b o n (g b o e))) S3)
theorem cf_nil : CfJ c X (compEnvC scope cl C c.env) C σ [] true := fun h tk Q E S k => wpAny_tests_nil (k h tk fun _ _ e => e)
theorem cf_one {t : Expr} {b : Bool} (h1 : CtJ c X (compEnvC scope cl C c.env) C σ t b) : CfJ c X (compEnvC scope cl C c.env) C σ [t] b := fun h tk Q E S k => wpAny_tests_one (h1 h tk _ _ S k)
end
noncomputable def Cx.rebase (c : Cx) (h : Heap) : Cx := { c with gd := { c.gd with H := hideAll h c.X } }
section
variable {c : Cx} {lev : Nat} {ρ : Loc}
theorem base_sub {h : Heap} (ok : c.Ok lev) (S : St c ρ h) : ∀ a o, c.gd.H.get? a = some o → (hideAll h c.X).get? a = some o := fun a o e => hideAll_get _ (S.keep a o e) (ok.hX a o e)
theorem Cx.Ok.rebase {h : Heap} (ok : c.Ok lev) (S : St c ρ h) : (c.rebase h).Ok lev :=
  ⟨ok.gr.keeps (base_sub ok S), ok.stack, ok.depth, ok.units, ok.kind, ok.hand, ok.frX, fun a o (e : (hideAll h c.X).get? a = some o) (z : a ∈ c.X) => absurd ((hideAll_none c.X z).symm.trans e) nofun, ok.ownX, ok.ownF⟩
theorem St.rebase {h : Heap} (S : St c ρ h) : St (c.rebase h) ρ h := ⟨S.ns, fun a o e => of_hideAll _ e, S.frs, S.xlt, S.oth, S.own⟩
theorem bl_rebase {h : Heap} {tk : Nat} {Q : Flow → Shared → Prop} {E : Value → Shared → Prop} {ss : List Stmt} {out : Out} (ok : c.Ok lev) (S : St c ρ h) (hb : BlJ (c.rebase h) ρ ss out) (k : OutK c h Q E out) : wpAny c.M c.B (execs ss c.env) Q E (c.sh h tk) := by
  refine hb h tk Q E S.rebase ?_
  cases out with
  | nxt ρ' => exact fun h' tk' kk S' => k h' tk' kk ⟨S'.ns, fun a o e => S'.keep a o (base_sub ok S a o e), S'.frs, S'.xlt, S'.oth, S'.own⟩
  | ret a σ => exact fun h' tk' v kk r hσ => k h' tk' v kk r hσ
  | exc C => exact fun h' tk' e kk x => k h' tk' e kk x
end
noncomputable def Cc.cxC (k : Cc) (name : Str) (scope : Scope) (L fa : Addr) (cd : Value) (cells : List (Str × Addr)) : Cx := { k.cx name scope L fa cd with cells := cells }
theorem enter_cells {k : Cc} {lev : Nat} {f : Addr} {name qual : Str} {params : Arguments} {body : List Stmt} {scope : Scope} {dV kV doc pm cdv ct oc : Value} {an od : Option Addr} {osl : Array (Option Value)} {h : Heap} {tk : Nat} {vs : List Value} {binds : List (Str × Value)} {R : PySem.Result → Shared → Prop}
    (ho : (KK k.gd.w.params).lookup f = some ⟨oc, od, .func (fnOf name qual params body scope dV kV doc pm an cdv ct), osl⟩) (hcd : codeIn (KK k.gd.w.params) cdv qual = true)
    (hbind : bindArgs (fnOf name qual params body scope dV kV doc pm an cdv ct) ⟨vs, []⟩ = pure binds)
    (hkind : ∀ x ∈ binds, scope.names.lookup x.1 = some .local ∨ (scope.names.lookup x.1 = some .cell ∧ ((cellsFrom (h.objs.size + 1) scope.names []).lookup x.1).isSome = true))
    (ok : k.Ok (lev + 1)) (fo : FrOk h k.l) (hH : ∀ a o, k.gd.H.get? a = some o → h.get? a = some o) (hX : ∀ a ∈ k.X, ∃ o, h.get? a = some o)
    (hb : ∀ h₁ tk₁ m cm, m = bindL (fun x => scope.names.lookup x) binds (fun _ => none) → cm = bindC (fun x => scope.names.lookup x) binds (fun _ => none) → (k.cxC qual scope h.objs.size f cdv (cellsFrom (h.objs.size + 1) scope.names [])).Ok lev →
      (∀ ρ : Loc, (∀ x a, ρ.lookup x = some a → a.isOwn = false ∧ ∃ v, m x = some v ∧ Rep (vw h k.X) v a) → St (k.cxC qual scope h.objs.size f cdv (cellsFrom (h.objs.size + 1) scope.names [])) ρ h₁) →
      (∀ n ca, (cellsFrom (h.objs.size + 1) scope.names []).lookup n = some ca → h₁.IsCell ca (cm n) ∧ ca ∉ h.objs.size :: k.X ∧ h.get? ca = none) → (∀ a o, h.get? a = some o → h₁.get? a = some o) → h.objs.size < h₁.objs.size →
      wpAny (MW k.gd.w) (k.cxC qual scope h.objs.size f cdv (cellsFrom (h.objs.size + 1) scope.names [])).B (execs body (k.cxC qual scope h.objs.size f cdv (cellsFrom (h.objs.size + 1) scope.names [])).env) (fun f s' => R (.ok (.ret (match f with | .ret v => v | _ => .none))) s')
        (fun e s' => wpAny (MW k.gd.w) (k.cxC qual scope h.objs.size f cdv (cellsFrom (h.objs.size + 1) scope.names [])).B (leaving (k.cxC qual scope h.objs.size f cdv (cellsFrom (h.objs.size + 1) scope.names [])).env e) (fun _ s'' => R (.error e) s'') (fun e' s'' => R (.error e') s'') s') (k.sh h₁ tk₁))
    (hco : scope.isCoroutine = false := by rfl) (hgen : scope.isGenerator = false := by rfl) (hk : scope.kind = .function := by rfl) : codeAny (MW k.gd.w) k.A (.call (.ref f) ⟨vs, []⟩) R (k.sh h tk) := by
  have G : Gr k.gd.w k.gd.mg k.gd.mb h := ok.gr.keeps hH
  have hL : ∀ a o, h.get? a = some o → a ≠ h.objs.size := fun a o e => Nat.ne_of_lt (Heap.lt_size e)
  refine codeAny_call_cells (s := k.sh h tk) (fd := fnOf name qual params body scope dV kV doc pm an cdv ct) (body := body) (by have := ok.depth; show _ < 1000; omega) (G.kx _ _ ho) rfl G.nolimit (codeRec_of G.kx hcd) rfl hbind rfl hkind (fun s₁ XX => ?_) hco hgen hk
  obtain ⟨h₁, tk₁, rfl, hk₁⟩ := XX.done
  have hns : h₁.Ns h.objs.size (bindL (fun x => scope.names.lookup x) binds fun _ => none) := XX.toInCall.ns
  have okc : (k.cxC qual scope h.objs.size f cdv (cellsFrom (h.objs.size + 1) scope.names [])).Ok lev := ⟨ok.gr, ok.stack, by have := ok.depth; show k.A.depth + lev ≤ 900; omega, by have := ok.units; show k.A.units + 20 * lev ≤ 9000; omega, hk, ok.hand, fun a ha => by
      rcases List.mem_cons.mp ha with q | q
      · exact q ▸ .head _
      · exact .tail _ (ok.frX a q), fun a o e q => by
      rcases List.mem_cons.mp q with q | q
      · exact hL a o (hH a o e) q
      · exact ok.hX a o e q, (fun _ z => nomatch z), (fun _ z => nomatch z)⟩
  have v0 : VLe (vw h k.X) (vw h₁ (h.objs.size :: k.X)) := fun a o e => by
    have aX := vw_not e
    unfold vw
    rw [if_neg (show ¬ a ∈ h.objs.size :: k.X from fun z => (List.mem_cons.mp z).elim (hL a o (vw_ge e)) aX)]
    exact hk₁ a o (vw_ge e)
  refine hb h₁ tk₁ _ _ rfl rfl okc (fun ρ hρ => ?_) (fun n ca e => ⟨XX.cell n ca e, fun z => ?_, ?_⟩) hk₁ hns.lt
  · exact ⟨⟨_, hns, fun x a e => let ⟨_, v, q1, q2⟩ := hρ x a e; ⟨v, q1, q2.mono v0⟩⟩, fun a o e => hk₁ a o (hH a o e), fun env he => by
      obtain ⟨a1, L, o, es, ep, b1, c1, d1⟩ := fo env he
      exact ⟨a1, L, o, es, ep, b1, hk₁ _ _ c1, d1⟩, fun a ha => by
      rcases List.mem_cons.mp ha with q | q
      · rw [q]; exact (let ⟨o, _, _, e, _⟩ := hns; ⟨o, e⟩)
      · exact (let ⟨o, e⟩ := hX a q; ⟨o, hk₁ a o e⟩), (fun _ z => nomatch z), fun x a oc e => by have := (hρ x _ e).1; cases this⟩
  · have hab : h.objs.size < ca := XX.above n ca (mem_of_lookup e)
    rcases List.mem_cons.mp z with z | z
    · rw [z] at hab; exact Nat.lt_irrefl _ hab
    · obtain ⟨o, q⟩ := hX ca z
      exact Nat.lt_irrefl _ (Nat.lt_trans hab (Heap.lt_size q))
  · exact Heap.get?_none_of_le (Nat.le_of_lt (XX.above n ca (mem_of_lookup e)))
noncomputable def rowF (what : Str) (high low sign : Nat) : Bits := (List.range (high + 1 - low)).map fun i => (what, if high - i = sign then -2 ^ (high - i) else 2 ^ (high - i))
theorem ce_eq {c X env C σ e a b} (h : CeJ c X env C σ e a) (q : a = b) : CeJ c X env C σ e b := q ▸ h
theorem small_down {a b : Int} (ha : -(2 ^ 40) ≤ a) (ha' : a < 2 ^ 40) (hb : -(2 ^ 40) ≤ b) (hb' : b < 2 ^ 40) : Builtin.Range.small a b (-1) = true := by
  have e : Builtin.Range.rangeSize a b (-1) = if b < a then a - b else 0 := by
    unfold Builtin.Range.rangeSize
    simp only [show ¬ ((-1 : Int) > 0) by decide, if_false, Int.neg_neg, Int.ediv_one]
    split <;> omega
  unfold Builtin.Range.small
  rw [e]
  simp only [Builtin.Range.rangeFitsLong, Bool.and_eq_true, Bool.or_eq_true, decide_eq_true_eq, beq_iff_eq, show ¬ ((-1 : Int) > 0) by decide, if_false]
  split <;> omega
theorem size_down (a b : Int) : Builtin.Range.rangeSize a b (-1) = if b < a then a - b else 0 := by
  unfold Builtin.Range.rangeSize
  simp only [show ¬ ((-1 : Int) > 0) by decide, if_false, Int.neg_neg, Int.ediv_one]
  split <;> omega
theorem clos_env {c : Cx} {scope : Scope} {cells cl : List (Str × Addr)} (hc : c.cells = cells) (h : closureFor scope { envOf (sO "") scope 0 0 .none with cells := cells } = pure cl) : closureFor scope c.env = pure cl := by
  rw [← h]; subst hc; rfl
theorem gl_range (P : Params) : nsIn (KK P) mainGlobals (Str.ofString "range") = some none := by kernel_rfl
theorem vs4 {V : View} {vs : List Value} {a b d e : AV} (rs : Reps V vs [a, b, d, e]) : ∃ u0 u1 u2 u3, vs = [u0, u1, u2, u3] ∧ Rep V u0 a ∧ Rep V u1 b ∧ Rep V u2 d ∧ Rep V u3 e := by
  replace rs := rs.i; obtain ⟨_, _, rfl, r0, rs⟩ := rs
  replace rs := rs.i; obtain ⟨_, _, rfl, r1, rs⟩ := rs
  replace rs := rs.i; obtain ⟨_, _, rfl, r2, rs⟩ := rs
  replace rs := rs.i; obtain ⟨_, _, rfl, r3, rs⟩ := rs
  obtain rfl := rs.i
  exact ⟨_, _, _, _, rfl, r0, r1, r2, r3⟩
section
theorem row_body {c : Cx} {lev} (ok : c.Ok lev) (hs : c.scope = fnScope (astAt 37)) (what : Str) (high low sign : Nat) (h1 : high < 2 ^ 20) (h2 : low ≤ high) (hz : high ≤ 999) {L : Nat} {t0 t1 : Tok}
    (hc : c.cells = [(sO "sign", L + 1 + 1), (sO "what", L + 1)]) (c1 : c.gd.H.IsCell (L + 1) (some (.str what t0))) (c2 : c.gd.H.IsCell (L + 1 + 1) (some (.int sign t1))) :
    BlJ c [(sO "low", .int low), (sO "high", .int high)] (fnBody (astAt 37)) (.ret (bitsAV (rowF what high low sign))) := by
  refine' bl_ret (sm_return (ev_comp (n := high + 1 - low) (item := fun i => .int (high + (i : Nat) * (-1))) (kp := fun _ => true) (el := fun i => bitAV (what, if high - i = sign then -2 ^ (high - i) else 2 ^ (high - i))) (σ := fun i => [(sO "k", .int (high + (i : Nat) * (-1)))])
    (cl := [(sO "what", L + 1), (sO "sign", L + 1 + 1)]) ok (clos_env hc (by kernel_rfl)) (by decide +kernel) (by kernel_rfl) (by decide +kernel) ?it (fun _ => rfl) (by omega) ?ht (fun _ _ _ _ => cf_nil) ?he ?ho))
  case it =>
    refine' is_range3 (a := high) (b := (low : Int) - 1) (d := -1) (n := high + 1 - low) ok (ev_builtin ok (gl_range _) (by decide +kernel) ok.kind (kd hs (by kernel_rfl)) (by decide +kernel) (by kernel_rfl)) ?a (by decide) (small_down (by omega) (by omega) (by omega) (by omega)) (by rw [size_down]; split <;> omega) (PyProof.noPylong_small (by omega)) rfl rfl rfl
    case a => walk_at "evs"
  case ht => exact fun C i hi => ct_name (by kernel_rfl) (kdc hs (by kernel_rfl))
  case he =>
    intro X C i hi _
    have e1 : ((high : Int) + (i : Int) * (-1)).toNat = high - i := by omega
    refine' ce_tup2 (ce_cell (v := .str what t0) (ca := L + 1) (by kernel_rfl) c1 (fun V => .str) (by kernel_rfl) (kdc hs (by kernel_rfl)) (by kernel_rfl)) ?v rfl rfl
    case v =>
      refine' ce_if (b := (high : Int) + (i : Nat) * (-1) == (sign : Int)) (ce_cmp ?n1 (ce_cell (v := .int sign t1) (ca := L + 1 + 1) (by kernel_rfl) c2 (fun V => .int) (by kernel_rfl) (kdc hs (by kernel_rfl)) (by kernel_rfl)) co_eqi rfl) ?y ?n
      case n1 => exact ce_name lk_here (by kernel_rfl) (kdc hs (by kernel_rfl)) (by kernel_rfl)
      case y =>
        intro hb
        have hb' := beq_iff_eq.mp hb
        rw [if_pos (by omega)]
        refine' ce_eq (ce_neg (ce_bin ce_int (ce_name lk_here (by kernel_rfl) (kdc hs (by kernel_rfl)) (by kernel_rfl)) (co_pow (by omega) ?z))) (by rw [e1])
        case z =>
          have : Builtin.Int.intBits 2 = 2 := by decide
          rw [this]; omega
      case n =>
        intro hb
        have hb' := beq_eq_false_iff_ne.mp hb
        rw [if_neg (by omega)]
        refine' ce_eq (ce_bin ce_int (ce_name lk_here (by kernel_rfl) (kdc hs (by kernel_rfl)) (by kernel_rfl)) (co_pow (by omega) ?z)) (by rw [e1])
        case z =>
          have : Builtin.Int.intBits 2 = 2 := by decide
          rw [this]; omega
  case ho =>
    rw [List.filter_eq_self.mpr (fun _ _ => rfl)]
    unfold rowF
    rw [List.map_map]
    rfl
end
theorem con_row (gd : Gd) (lev : Nat) (what : Str) (high low sign : Nat) (h2 : low ≤ high) (hz : high ≤ 999) : Con gd (lev + 1) (.ref 1099) [.str what, .int high, .int low, .int sign] (.ok (bitsAV (rowF what high low sign))) := fun k h tk vs R eg ok fo hH hX rs kR => by
  subst eg
  obtain ⟨_, _, _, _, rfl, r0, r1, r2, r3⟩ := vs4 rs
  obtain ⟨_, rfl⟩ := r0.i; obtain ⟨_, rfl⟩ := r1.i; obtain ⟨_, rfl⟩ := r2.i; obtain ⟨_, rfl⟩ := r3.i
  rename_i t0 t1 t2 t3
  refine enter_cells (binds := [(sO "what", .str what t0), (sO "high", .int high t1), (sO "low", .int low t2), (sO "sign", .int sign t3)]) (show (KK k.gd.w.params).lookup 1099 = some (o1099 k.gd.w.params) by kernel_rfl) (by kernel_rfl) (by kernel_rfl) (fun x hx => ?_) ok fo hH hX
    (fun h₁ tk₁ m cm hm hcm okc mk hcl hk₁ hlt => ?_) (by kernel_rfl) (by kernel_rfl) (by kernel_rfl)
  · simp only [List.mem_cons, List.not_mem_nil, or_false] at hx
    rcases hx with rfl | rfl | rfl | rfl
    · exact .inr ⟨by kernel_rfl, by kernel_rfl⟩
    · exact .inl (by kernel_rfl)
    · exact .inl (by kernel_rfl)
    · exact .inr ⟨by kernel_rfl, by kernel_rfl⟩
  · have hce : cellsFrom (h.objs.size + 1) (fnScope (astAt 37)).names [] = [(sO "sign", h.objs.size + 1 + 1), (sO "what", h.objs.size + 1)] := by kernel_rfl
    have S := mk [(sO "low", .int low), (sO "high", .int high)] (fun x a e => by
      have := lookup_mem e
      simp only [List.mem_cons, Prod.mk.injEq, List.not_mem_nil, or_false] at this
      rcases this with ⟨rfl, rfl⟩ | ⟨rfl, rfl⟩
      · exact ⟨rfl, .int low t2, by rw [hm]; kernel_rfl, .int⟩
      · exact ⟨rfl, .int high t1, by rw [hm]; kernel_rfl, .int⟩)
    have cw := hcl (sO "what") (h.objs.size + 1) (by rw [hce]; kernel_rfl)
    have cs := hcl (sO "sign") (h.objs.size + 1 + 1) (by rw [hce]; kernel_rfl)
    rw [hcm] at cw cs
    have hL : ∀ a o, h.get? a = some o → a ≠ h.objs.size := fun a o e => Nat.ne_of_lt (Heap.lt_size e)
    have toH : ∀ {c : Cx}, c.X = h.objs.size :: k.X → ∀ {ca v}, h₁.IsCell ca v → ca ∉ h.objs.size :: k.X → (c.rebase h₁).gd.H.IsCell ca v := fun {c} hX {ca v} ⟨o, e, d⟩ n => ⟨o, hideAll_get _ e (hX ▸ n), d⟩
    generalize hcc : k.cxC (sO "_law_row") (fnScope (astAt 37)) h.objs.size 1099 (.ref 1098) (cellsFrom (h.objs.size + 1) (fnScope (astAt 37)).names []) = c at okc S ⊢
    have hs : c.scope = fnScope (astAt 37) := by rw [← hcc]; rfl
    have hXX : c.X = h.objs.size :: k.X := by rw [← hcc]; rfl
    have hcells : c.cells = [(sO "sign", h.objs.size + 1 + 1), (sO "what", h.objs.size + 1)] := by rw [← hce, ← hcc]; rfl
    have hfr : c.fr = h.objs.size :: frs k.l := by rw [← hcc]; rfl
    have how : c.own = [] := by rw [← hcc]; rfl
    rw [show k.sh h₁ tk₁ = c.sh h₁ tk₁ by rw [← hcc]; rfl]
    have hg : MW k.gd.w = c.M := by rw [← hcc]; rfl
    rw [hg]
    refine bl_rebase okc S (row_body (okc.rebase S) hs what high low sign (by omega) h2 hz (L := h.objs.size) (t0 := t0) (t1 := t3) hcells (toH hXX cw.1 cw.2.1) (toH hXX cs.1 cs.2.1)) ?_
    refine fun h' tk' v q r _ => ?_
    rw [show c.sh h' tk' = k.sh h' tk' by rw [← hcc]; rfl]
    refine kR h' tk' v ⟨(Live.of_keeps hk₁).trans q.1, fun a o n e => q.2.1 a o (fun z => ?_) (by rw [how]; exact fun z => nomatch z) (hk₁ a o e), fun a o e => q.2.2 a o (fun z => ?_) (by rw [how]; exact fun z => nomatch z) (hk₁ a o e)⟩ (r.mono fun a o e => ?_)
    · rw [hfr] at z
      exact (List.mem_cons.mp z).elim (hL a o e) n
    · rw [show c.L = h.objs.size by rw [← hcc]; rfl] at z
      exact hL a o e z
    · have aX := vw_not e
      rw [hXX] at aX
      unfold vw
      rw [if_neg (fun z => aX (List.mem_cons_of_mem _ z))]
      exact vw_ge e
noncomputable def fixF (n : Nat) : Bits := List.replicate n (sO "", 0)
section
theorem fix_body {c : Cx} {lev} (ok : c.Ok lev) (hs : c.scope = fnScope (astAt 38)) (n : Nat) (hn : n ≤ 1000) : BlJ c [(sO "many", .int n)] (fnBody (astAt 38)) (.ret (bitsAV (fixF n))) := by
  refine' bl_ret (sm_return (ev_eq (ev_listmul (a := bitAV (sO "", 0)) (n := n) ok (evs_cons ok ?a evs_nil rfl) ?b (by omega) (by omega)) ?d))
  case a => exact ev_tuple ok (evs_cons ok ev_str (evs_cons ok ev_int evs_nil rfl) rfl) (by simp)
  case b => walk_at "ev"
  case d => unfold fixF bitsAV; rw [List.map_replicate]; rfl
end
theorem con_fix (gd : Gd) (lev : Nat) (n : Nat) (hn : n ≤ 1000) : Con gd (lev + 1) (.ref 1106) [.int n] (.ok (bitsAV (fixF n))) :=
  con_fn (lev := lev) (as := [.int n]) (out := .ret (bitsAV (fixF n))) [sO "many"] (show (KK gd.w.params).lookup 1106 = some (o1106 gd.w.params) by kernel_rfl) (by kernel_rfl)
    (fun s vs hl _ => by obtain ⟨a0, rfl⟩ := len1 hl; exact .of_eq (by kernel_rfl)) (by decide +kernel)
    (fun c hg ok hs hn' => fix_body ok hs n hn) (by kernel_rfl) (by kernel_rfl) (by kernel_rfl) (by decide +kernel)
theorem gl_row (P : Params) : nsIn (KK P) mainGlobals (Str.ofString "_law_row") = some (some (.ref 1099)) := by kernel_rfl
theorem gl_fix (P : Params) : nsIn (KK P) mainGlobals (Str.ofString "_law_fixed") = some (some (.ref 1106)) := by kernel_rfl
theorem kp_row (P : Params) : keepIn (KK P) (.ref 1099) = true := by kernel_rfl
theorem kp_fix (P : Params) : keepIn (KK P) (.ref 1106) = true := by kernel_rfl
section
variable {c : Cx} {lev : Nat} {ρ : Loc} {sc : Scope}
theorem ev_addb {e1 e2 : Expr} {p : Pos} {x y : Bits} (ok : c.Ok lev) (h1 : EvJ c ρ e1 (bitsAV x)) (h2 : EvJ c ρ e2 (bitsAV y)) (hz : x.length + y.length ≤ 1000) : EvJ c ρ (.BinOp e1 .Add e2 p) (bitsAV (x ++ y)) :=
  ev_eq (ev_bin ok h1 h2 (op_addl ok (by rw [List.length_map, List.length_map]; exact hz))) (by unfold bitsAV; rw [List.map_append])
theorem ev_fixc {np p1 p : Pos} {k : Nat} {n : Nat} (ok : c.Ok (lev + 2)) (hs : c.scope = sc) (hx : sc.names.lookup (Str.ofString "_law_fixed") = some .globalImplicit) (hn : n ≤ 1000) : EvJ c ρ (.Call (.Name (Str.ofString "_law_fixed") np) [.Constant (.int n) k p1] [] p) (bitsAV (fixF n)) :=
  ev_callK ok (ev_global ok (gl_fix _) ok.kind (kd hs hx) (by kernel_rfl)) (evs_cons ok ev_int evs_nil rfl) (con_ca (lev := lev + 1) ok (con_fix c.gd lev n hn)) (kp_fix _) rfl rfl rfl
theorem ev_rowc {np p p1 p2 p3 p4 : Pos} {k1 k2 k3 k4 : Nat} {what : Str} {a b d : Nat} (ok : c.Ok (lev + 2)) (hs : c.scope = sc) (hx : sc.names.lookup (Str.ofString "_law_row") = some .globalImplicit) (h1 : b ≤ a) (h2 : a ≤ 999) :
    EvJ c ρ (.Call (.Name (Str.ofString "_law_row") np) [.Constant (.str what) k1 p1, .Constant (.int a) k2 p2, .Constant (.int b) k3 p3, .Constant (.int d) k4 p4] [] p) (bitsAV (rowF what a b d)) :=
  ev_callK ok (ev_global ok (gl_row _) ok.kind (kd hs hx) (by kernel_rfl)) (evs_cons ok ev_str (evs_cons ok ev_int (evs_cons ok ev_int (evs_cons ok ev_int evs_nil rfl) rfl) rfl) rfl) (con_ca (lev := lev + 1) ok (con_row c.gd lev what a b d h1 h2)) (kp_row _) rfl rfl rfl
end
noncomputable def bRd : Bits := rowF (sO "rd") 4 0 9
noncomputable def bOne : Bits := rowF (sO "rs1") 4 0 9
noncomputable def bOther : Bits := rowF (sO "rs2") 4 0 9
noncomputable def bTail : Bits := bOne ++ fixF 3 ++ bRd ++ fixF 7
noncomputable def bitsF (kind : Str) : Bits :=
  if kind == sO "R" then fixF 7 ++ bOther ++ bTail else
  if kind == sO "I" then rowF (sO "imm") 11 0 11 ++ bTail else
  if kind == sO "fence" then rowF (sO "imm") 11 0 12 ++ bTail else
  if kind == sO "CSR" then rowF (sO "csr") 11 0 12 ++ bTail else
  if kind == sO "CSRI" then rowF (sO "csr") 11 0 12 ++ rowF (sO "imm") 4 0 5 ++ fixF 3 ++ bRd ++ fixF 7 else
  if kind == sO "shift" then fixF 7 ++ rowF (sO "imm") 4 0 5 ++ bTail else
  if kind == sO "S" then rowF (sO "imm") 11 5 11 ++ bOther ++ bOne ++ fixF 3 ++ rowF (sO "imm") 4 0 11 ++ fixF 7 else
  if kind == sO "B" then (rowF (sO "imm") 12 12 12 ++ rowF (sO "imm") 10 5 12 ++ bOther ++ bOne ++ fixF 3) ++ rowF (sO "imm") 4 1 12 ++ rowF (sO "imm") 11 11 12 ++ fixF 7 else
  if kind == sO "U" then rowF (sO "imm") 19 0 20 ++ bRd ++ fixF 7 else
  if kind == sO "J" then (rowF (sO "imm") 20 20 20 ++ rowF (sO "imm") 10 1 20 ++ rowF (sO "imm") 11 11 20) ++ rowF (sO "imm") 19 12 20 ++ bRd ++ fixF 7 else
  if kind == sO "flush" then fixF 7 ++ bOther ++ bOne ++ fixF 3 ++ fixF 5 ++ fixF 7 else fixF 32
local macro_rules | `(tactic| walk_at "bits") => `(tactic| first
  | ((with_reducible show EvJ _ _ (Expr.BinOp _ _ _ _) _); refine' ev_addb (by assumption) ?l ?r (Nat.le_of_ble_eq_true (by kernel_rfl)); (case l => walk_at "bits"); (case r => walk_at "bits"))
  | ((with_reducible show EvJ _ _ (Expr.Name _ _) _); refine' ev_lk (by assumption) (by assumption) ?l (by kernel_rfl) (by kernel_rfl); (case l => walk_at "lk"))
  | exact ev_fixc (by assumption) (by assumption) (by kernel_rfl) (Nat.le_of_ble_eq_true (by kernel_rfl))
  | exact ev_rowc (by assumption) (by assumption) (by kernel_rfl) (Nat.le_of_ble_eq_true (by kernel_rfl)) (Nat.le_of_ble_eq_true (by kernel_rfl)))
section
theorem bits_body {c : Cx} {lev} (ok : c.Ok (lev + 2)) (hs : c.scope = fnScope (astAt 39)) (kind : Str) : BlJ c [(sO "kind", .str kind)] (fnBody (astAt 39)) (.ret (bitsAV (bitsF kind))) := by
  refine' bl_cons (sm_tup (as := [bitsAV (fixF 5), bitsAV bRd, bitsAV bOne, bitsAV bOther]) (xs := [sO "five", sO "rd", sO "one", sO "other"]) (ρ' := [(sO "other", bitsAV bOther), (sO "one", bitsAV bOne), (sO "rd", bitsAV bRd), (sO "five", bitsAV (fixF 5)), (sO "kind", .str kind)]) ok ?v1 ?s1 rfl rfl rfl rfl rfl rfl) ?d1
  case v1 =>
    refine' ev_tuple ok (evs_cons ok ?a1 (evs_cons ok ?a2 (evs_cons ok ?a3 (evs_cons ok ?a4 evs_nil rfl) rfl) rfl) rfl) (by simp)
    case a1 => walk_at "bits"
    case a2 => unfold bRd; walk_at "bits"
    case a3 => unfold bOne; walk_at "bits"
    case a4 => unfold bOther; walk_at "bits"
  case s1 => exact .cons (sto_name (kd hs (by kernel_rfl))) (.cons (sto_name (kd hs (by kernel_rfl))) (.cons (sto_name (kd hs (by kernel_rfl))) (.cons (sto_name (kd hs (by kernel_rfl))) .nil)))
  case d1 =>
  refine' bl_cons (sm_assign (a := bitsAV bTail) ok ?v2 (kd hs (by kernel_rfl)) rfl rfl) ?d2
  case v2 => unfold bTail; walk_at "bits"
  case d2 =>
  refine' bl_if ok (b := kind == sO "R") ?tR (fun _ => rfl) ?xR ?yR
  case tR => walk_at "tsq"
  case xR =>
    intro hp
    rw [show bitsF kind = fixF 7 ++ bOther ++ bTail by unfold bitsF; rw [if_pos hp]]
    refine' bl_ret (sm_return ?_)
    walk_at "bits"
  case yR =>
  intro nb
  have nR := Bool.eq_false_iff.mp nb
  clear nb
  refine' bl_if ok (b := kind == sO "I") ?tI (fun _ => rfl) ?xI ?yI
  case tI => walk_at "tsq"
  case xI =>
    intro hp
    rw [show bitsF kind = rowF (sO "imm") 11 0 11 ++ bTail by unfold bitsF; rw [if_neg nR, if_pos hp]]
    refine' bl_ret (sm_return ?_)
    walk_at "bits"
  case yI =>
  intro nb
  have nI := Bool.eq_false_iff.mp nb
  clear nb
  refine' bl_if ok (b := kind == sO "fence") ?tfence (fun _ => rfl) ?xfence ?yfence
  case tfence => walk_at "tsq"
  case xfence =>
    intro hp
    rw [show bitsF kind = rowF (sO "imm") 11 0 12 ++ bTail by unfold bitsF; rw [if_neg nR, if_neg nI, if_pos hp]]
    refine' bl_ret (sm_return ?_)
    walk_at "bits"
  case yfence =>
  intro nb
  have nfence := Bool.eq_false_iff.mp nb
  clear nb
  refine' bl_if ok (b := kind == sO "CSR") ?tCSR (fun _ => rfl) ?xCSR ?yCSR
  case tCSR => walk_at "tsq"
  case xCSR =>
    intro hp
    rw [show bitsF kind = rowF (sO "csr") 11 0 12 ++ bTail by unfold bitsF; rw [if_neg nR, if_neg nI, if_neg nfence, if_pos hp]]
    refine' bl_ret (sm_return ?_)
    walk_at "bits"
  case yCSR =>
  intro nb
  have nCSR := Bool.eq_false_iff.mp nb
  clear nb
  refine' bl_if ok (b := kind == sO "CSRI") ?tCSRI (fun _ => rfl) ?xCSRI ?yCSRI
  case tCSRI => walk_at "tsq"
  case xCSRI =>
    intro hp
    rw [show bitsF kind = rowF (sO "csr") 11 0 12 ++ rowF (sO "imm") 4 0 5 ++ fixF 3 ++ bRd ++ fixF 7 by unfold bitsF; rw [if_neg nR, if_neg nI, if_neg nfence, if_neg nCSR, if_pos hp]]
    refine' bl_ret (sm_return ?_)
    walk_at "bits"
  case yCSRI =>
  intro nb
  have nCSRI := Bool.eq_false_iff.mp nb
  clear nb
  refine' bl_if ok (b := kind == sO "shift") ?tshift (fun _ => rfl) ?xshift ?yshift
  case tshift => walk_at "tsq"
  case xshift =>
    intro hp
    rw [show bitsF kind = fixF 7 ++ rowF (sO "imm") 4 0 5 ++ bTail by unfold bitsF; rw [if_neg nR, if_neg nI, if_neg nfence, if_neg nCSR, if_neg nCSRI, if_pos hp]]
    refine' bl_ret (sm_return ?_)
    walk_at "bits"
  case yshift =>
  intro nb
  have nshift := Bool.eq_false_iff.mp nb
  clear nb
  refine' bl_if ok (b := kind == sO "S") ?tS (fun _ => rfl) ?xS ?yS
  case tS => walk_at "tsq"
  case xS =>
    intro hp
    rw [show bitsF kind = rowF (sO "imm") 11 5 11 ++ bOther ++ bOne ++ fixF 3 ++ rowF (sO "imm") 4 0 11 ++ fixF 7 by unfold bitsF; rw [if_neg nR, if_neg nI, if_neg nfence, if_neg nCSR, if_neg nCSRI, if_neg nshift, if_pos hp]]
    refine' bl_ret (sm_return ?_)
    walk_at "bits"
  case yS =>
  intro nb
  have nS := Bool.eq_false_iff.mp nb
  clear nb
  refine' bl_if ok (b := kind == sO "B") ?tB (fun _ => rfl) ?xB ?yB
  case tB => walk_at "tsq"
  case xB =>
    intro hp
    rw [show bitsF kind = (rowF (sO "imm") 12 12 12 ++ rowF (sO "imm") 10 5 12 ++ bOther ++ bOne ++ fixF 3) ++ rowF (sO "imm") 4 1 12 ++ rowF (sO "imm") 11 11 12 ++ fixF 7 by unfold bitsF; rw [if_neg nR, if_neg nI, if_neg nfence, if_neg nCSR, if_neg nCSRI, if_neg nshift, if_neg nS, if_pos hp]]
    refine' bl_cons (sm_assign (a := bitsAV (rowF (sO "imm") 12 12 12 ++ rowF (sO "imm") 10 5 12 ++ bOther ++ bOne ++ fixF 3)) ok ?f1 (kd hs (by kernel_rfl)) rfl rfl) ?f2
    case f1 => walk_at "bits"
    case f2 =>
    refine' bl_ret (sm_return (ev_addb ok (ev_addb ok (ev_addb ok ?g1 ?g2 (Nat.le_of_ble_eq_true (by kernel_rfl))) ?g3 (Nat.le_of_ble_eq_true (by kernel_rfl))) ?g4 (Nat.le_of_ble_eq_true (by kernel_rfl))))
    case g1 => exact ev_lk ok hs (by walk_at "lk") (by kernel_rfl) (by kernel_rfl)
    case g2 => walk_at "bits"
    case g3 => walk_at "bits"
    case g4 => walk_at "bits"
  case yB =>
  intro nb
  have nB := Bool.eq_false_iff.mp nb
  clear nb
  refine' bl_if ok (b := kind == sO "U") ?tU (fun _ => rfl) ?xU ?yU
  case tU => walk_at "tsq"
  case xU =>
    intro hp
    rw [show bitsF kind = rowF (sO "imm") 19 0 20 ++ bRd ++ fixF 7 by unfold bitsF; rw [if_neg nR, if_neg nI, if_neg nfence, if_neg nCSR, if_neg nCSRI, if_neg nshift, if_neg nS, if_neg nB, if_pos hp]]
    refine' bl_ret (sm_return ?_)
    walk_at "bits"
  case yU =>
  intro nb
  have nU := Bool.eq_false_iff.mp nb
  clear nb
  refine' bl_if ok (b := kind == sO "J") ?tJ (fun _ => rfl) ?xJ ?yJ
  case tJ => walk_at "tsq"
  case xJ =>
    intro hp
    rw [show bitsF kind = (rowF (sO "imm") 20 20 20 ++ rowF (sO "imm") 10 1 20 ++ rowF (sO "imm") 11 11 20) ++ rowF (sO "imm") 19 12 20 ++ bRd ++ fixF 7 by unfold bitsF; rw [if_neg nR, if_neg nI, if_neg nfence, if_neg nCSR, if_neg nCSRI, if_neg nshift, if_neg nS, if_neg nB, if_neg nU, if_pos hp]]
    refine' bl_cons (sm_assign (a := bitsAV (rowF (sO "imm") 20 20 20 ++ rowF (sO "imm") 10 1 20 ++ rowF (sO "imm") 11 11 20)) ok ?f1 (kd hs (by kernel_rfl)) rfl rfl) ?f2
    case f1 => walk_at "bits"
    case f2 =>
    refine' bl_ret (sm_return (ev_addb ok (ev_addb ok (ev_addb ok ?g1 ?g2 (Nat.le_of_ble_eq_true (by kernel_rfl))) ?g3 (Nat.le_of_ble_eq_true (by kernel_rfl))) ?g4 (Nat.le_of_ble_eq_true (by kernel_rfl))))
    case g1 => exact ev_lk ok hs (by walk_at "lk") (by kernel_rfl) (by kernel_rfl)
    case g2 => walk_at "bits"
    case g3 => walk_at "bits"
    case g4 => walk_at "bits"
  case yJ =>
  intro nb
  have nJ := Bool.eq_false_iff.mp nb
  clear nb
  refine' bl_if ok (b := kind == sO "flush") ?tflush (fun _ => rfl) ?xflush ?yflush
  case tflush => walk_at "tsq"
  case xflush =>
    intro hp
    rw [show bitsF kind = fixF 7 ++ bOther ++ bOne ++ fixF 3 ++ fixF 5 ++ fixF 7 by unfold bitsF; rw [if_neg nR, if_neg nI, if_neg nfence, if_neg nCSR, if_neg nCSRI, if_neg nshift, if_neg nS, if_neg nB, if_neg nU, if_neg nJ, if_pos hp]]
    refine' bl_ret (sm_return ?_)
    walk_at "bits"
  case yflush =>
  intro nb
  have nflush := Bool.eq_false_iff.mp nb
  clear nb
  rw [show bitsF kind = fixF 32 by unfold bitsF; rw [if_neg nR, if_neg nI, if_neg nfence, if_neg nCSR, if_neg nCSRI, if_neg nshift, if_neg nS, if_neg nB, if_neg nU, if_neg nJ, if_neg nflush]]
  refine' bl_ret (sm_return ?_)
  walk_at "bits"
end
theorem con_bits (gd : Gd) (lev : Nat) (kind : Str) : Con gd (lev + 3) (.ref 1113) [.str kind] (.ok (bitsAV (bitsF kind))) :=
  con_fn (lev := lev + 2) (as := [.str kind]) (out := .ret (bitsAV (bitsF kind))) [sO "kind"] (show (KK gd.w.params).lookup 1113 = some (o1113 gd.w.params) by kernel_rfl) (by kernel_rfl)
    (fun s vs hl _ => by obtain ⟨a0, rfl⟩ := len1 hl; exact .of_eq (by kernel_rfl)) (by decide +kernel)
    (fun c hg ok hs hn' => bits_body ok hs kind) (by kernel_rfl) (by kernel_rfl) (by kernel_rfl) (by decide +kernel)
noncomputable def boxAt (g s n : Int) : Nat → Int | 0 => g | 1 => s | _ => n
noncomputable def boxSet (g s n : Int) (i : Nat) (v : Int) : OC := match i with | 0 => .box v s n | 1 => .box g v n | _ => .box g s v
theorem set3_0 (a b c v : Value) : (#[a, b, c] : Array Value).setIfInBounds 0 v = #[v, b, c] := by simp [Array.setIfInBounds]
theorem set3_1 (a b c v : Value) : (#[a, b, c] : Array Value).setIfInBounds 1 v = #[a, v, c] := by simp [Array.setIfInBounds]
theorem set3_2 (a b c v : Value) : (#[a, b, c] : Array Value).setIfInBounds 2 v = #[a, b, v] := by simp [Array.setIfInBounds]
theorem bs0 {w : World} {h : Heap} {a : Addr} {g s n v : Int} {t0 t1 t2 t : Tok} (x : h.IsList a ((#[.int g t0, .int s t1, .int n t2] : Array Value).setIfInBounds 0 (.int v t))) : Holds w h a (.box v s n) := by
  rw [set3_0] at x
  exact ⟨t, t1, t2, x⟩
theorem bs1 {w : World} {h : Heap} {a : Addr} {g s n v : Int} {t0 t1 t2 t : Tok} (x : h.IsList a ((#[.int g t0, .int s t1, .int n t2] : Array Value).setIfInBounds 1 (.int v t))) : Holds w h a (.box g v n) := by
  rw [set3_1] at x
  exact ⟨t0, t, t2, x⟩
theorem bs2 {w : World} {h : Heap} {a : Addr} {g s n v : Int} {t0 t1 t2 t : Tok} (x : h.IsList a ((#[.int g t0, .int s t1, .int n t2] : Array Value).setIfInBounds 2 (.int v t))) : Holds w h a (.box g s v) := by
  rw [set3_2] at x
  exact ⟨t0, t1, t, x⟩
theorem box_set {w : World} {h : Heap} {a : Addr} {g s n v : Int} {t0 t1 t2 t : Tok} (i : Nat) (hi : i < 3) (x : h.IsList a ((#[.int g t0, .int s t1, .int n t2] : Array Value).setIfInBounds i (.int v t))) : Holds w h a (boxSet g s n i v) := by
  have : i = 0 ∨ i = 1 ∨ i = 2 := by omega
  rcases this with rfl | rfl | rfl
  · exact bs0 x
  · exact bs1 x
  · exact bs2 x
theorem There.list {h : Heap} {a : Addr} {xs} (d : h.IsList a xs) : There h a := let ⟨o, e, _, n, q⟩ := d; ⟨o, e, fun vs z => by rw [q] at z; cases z⟩
section
variable {c : Cx} {lev : Nat} {ρ : Loc}
theorem ev_boxget {x : Str} {xp p cp : Pos} {kk : Nat} {a : Addr} {g s n : Int} {i : Nat} (hi : i < 3) (ok : c.Ok lev) (hl : ρ.lookup x = some (.own a (.box g s n))) (hk : c.env.kindOf x = some .local) (hd : (x == ("__debug__" : Str)) = false)
    (hs : ∀ a t, subscripted (.Constant (.int (i : Nat)) kk cp) false (.ref a) (.int (i : Nat) t) = operate [.ref a, .int (i : Nat) t] (getItem (.ref a) (.int (i : Nat) t))) : EvJ c ρ (.Subscript (.Name x xp) (.Constant (.int (i : Nat)) kk cp) p) (.int (boxAt g s n i)) := fun h tk Q E S kq => by
  refine Subscript_ (ev_name hl ok.kind hk hd h tk _ _ S fun h' tk' v k1 r1 => ?_)
  have S1 := S.kp ok k1
  refine (ev_int (c := c) (ρ := ρ)) h' tk' _ _ S1 fun h2 tk2 u k2 r2 => ?_
  have S2 := S1.kp ok k2
  obtain rfl := r1.i
  obtain ⟨_, rfl⟩ := r2.i
  obtain ⟨_, t0, t1, t2, hD⟩ := S2.own x a _ hl
  obtain ⟨t, hv⟩ : ∃ t, (#[.int g t0, .int s t1, .int n t2] : Array Value)[(i : Int).toNat]? = some (.int (boxAt g s n i) t) := by
    match i, hi with
    | 0, _ => exact ⟨t0, rfl⟩
    | 1, _ => exact ⟨t1, rfl⟩
    | 2, _ => exact ⟨t2, rfl⟩
  exact sub_tail (s := c.sh h2 tk2) (Heap.IsList.typeIs hD) slot_list_getitem.lookup (wpAny_getItem_list hD (by omega) (by omega) hv (kq _ _ _ (k1.trans k2) .int)) (hs _ _)
theorem sm_boxset {x : Str} {xp p p' cp : Pos} {kk : Nat} {ve : Expr} {a : Addr} {g s n v : Int} {i : Nat} (hi : i < 3) (ok : c.Ok lev) (hv : EvJ c ρ ve (.int v)) (hl : ρ.lookup x = some (.own a (.box g s n))) (hk : c.env.kindOf x = some .local) (hd : (x == ("__debug__" : Str)) = false)
    (hu : ∀ y b oc, ρ.lookup y = some (.own b oc) → y = x ∨ b ≠ a)
    (hs : swapsWith ve (some (.Subscript (.Name x xp) (.Constant (.int (i : Nat)) kk cp) p')) p.line c.env = pure false) : SmJ c ρ (.Assign [.Subscript (.Name x xp) (.Constant (.int (i : Nat)) kk cp) p'] ve p) (.nxt ((x, .own a (boxSet g s n i v)) :: ρ)) := fun h tk Q E S kq => by
  refine wpAny_Assign_Subscript (hv h tk _ _ S fun h1' tk1 v k1 r1 => ?_) hs
  have S1 := S.kp ok k1
  refine ev_name hl ok.kind hk hd h1' tk1 _ _ S1 fun h2 tk2 u k2 r2 => ?_
  have S2 := S1.kp ok k2
  refine (ev_int (c := c) (ρ := ρ)) h2 tk2 _ _ S2 fun h3 tk3 z k3 r3 => ?_
  have S3 := S2.kp ok k3
  obtain ⟨_, rfl⟩ := r1.i
  obtain rfl := r2.i
  obtain ⟨_, rfl⟩ := r3.i
  rename_i t _
  obtain ⟨_, t0, t1, t2, hD⟩ := S3.own x a _ hl
  have hsz : (i : Int) < (#[.int g t0, .int s t1, .int n t2] : Array Value).size := by
    simp only [List.size_toArray, List.length_cons, List.length_nil]
    omega
  refine wpAny_setItem_list (s := c.sh h3 tk3) hD (Int.natCast_nonneg i) (by omega) hsz fun h4 hD4 hs4 => ?_
  rw [Int.toNat_natCast] at hD4
  have hh : Holds c.gd.w h4 a (boxSet g s n i v) := box_set i hi hD4
  obtain ⟨S4, k4⟩ := S3.turn (h' := h4) ok hl hu (fun b o nb q => (hs4.2 b nb).trans q) (There.list hD4) (oc' := boxSet g s n i v) hh
  exact kq h4 _ (((k1.trans k2).trans k3).s.trans k4) S4
end
noncomputable def ConB (gd : Gd) (lev : Nat) (f : Value) (mk : Addr → List AV) (oc oc' : OC) (r : AV) : Prop := ∀ (k : Cc) h tk vs R a, k.gd = gd → k.Ok lev → FrOk h k.l → (∀ a o, gd.H.get? a = some o → h.get? a = some o) → (∀ a ∈ k.X, ∃ o, h.get? a = some o) → a ∈ k.X → a ∉ frs k.l → There h a → Holds gd.w h a oc → Reps (vw h k.X) vs (mk a) →
  (∀ h' tk' v, KpX a (frs k.l) h h' → Rep (vw h' k.X) v r → There h' a → Holds gd.w h' a oc' → R (.ok (.ret v)) (k.sh h' tk')) → codeAny (MW gd.w) k.A (.call f ⟨vs, []⟩) R (k.sh h tk)
noncomputable def unown : AV → AV | .own a _ => .glob (.ref a) | x => x
theorem rep_unown {V : View} {v a} (r : Rep V v a) : Rep V v (unown a) := by
  cases r <;> first | exact .glob | (constructor <;> assumption)
theorem unown_rep {V : View} {v a} (r : Rep V v (unown a)) : Rep V v a := by
  cases a <;> first | exact r | (obtain rfl := r.i; exact .own)
theorem reps_unown {V : View} : ∀ {vs as}, Reps V vs as → Reps V vs (as.map unown)
  | _, _, .nil => .nil
  | _, _, .cons r rs => .cons (rep_unown r) (reps_unown rs)
theorem not_unown : ∀ as : List AV, ∀ a ∈ as.map unown, a.isOwn = false := fun as a ha => by
  obtain ⟨b, _, rfl⟩ := List.mem_map.mp ha
  cases b <;> rfl
theorem lookup_unown {x : Str} {a : AV} : ∀ {ρ : Loc}, ρ.lookup x = some a → (ρ.map fun p => (p.1, unown p.2)).lookup x = some (unown a)
  | [], e => by cases e
  | (y, b) :: l, e => by
    rw [List.lookup_cons] at e
    rw [List.map_cons, List.lookup_cons]
    split at e
    · rename_i q; cases e; simp only [q]
    · rename_i q; simp only [q]; exact lookup_unown e
theorem zip_unown : ∀ (xs : List Str) (as : List AV), xs.zip (as.map unown) = (xs.zip as).map fun p => (p.1, unown p.2)
  | [], _ => rfl
  | _ :: _, [] => rfl
  | x :: xs, a :: as => congrArg (_ :: ·) (zip_unown xs as)
noncomputable def Cx.owns (c : Cx) (a : Addr) : Cx := { c with own := [a] }
theorem restage {c : Cx} {ρ : Loc} {h : Heap} {a : Addr} {oc : OC} (S : St c (ρ.map fun p => (p.1, unown p.2)) h) (ht : There h a) (hh : Holds c.gd.w h a oc) (hu : ∀ x b oc', ρ.lookup x = some (.own b oc') → b = a ∧ oc' = oc) : St (c.owns a) ρ h :=
  ⟨let ⟨m, n, r⟩ := S.ns; ⟨m, n, fun x b e => let ⟨v, q1, q2⟩ := r x _ (lookup_unown e); ⟨v, q1, unown_rep q2⟩⟩, S.keep, S.frs, S.xlt, fun b hb => by rw [List.mem_singleton.mp hb]; exact ht, fun x b oc' e => by
    obtain ⟨rfl, rfl⟩ := hu x b oc' e
    exact ⟨.head _, hh⟩⟩
theorem con_fnB {gd : Gd} {lev : Nat} {f : Addr} {name qual : Str} {params : Arguments} {body : List Stmt} {scope : Scope} {dV kV doc pm cdv ct oc : Value} {an od : Option Addr} {osl : Array (Option Value)} {mk : Addr → List AV} {o1 o2 : OC} {r : AV} (names : List Str)
    (ho : (KK gd.w.params).lookup f = some ⟨oc, od, .func (fnOf name qual params body scope dV kV doc pm an cdv ct), osl⟩) (hcd : codeIn (KK gd.w.params) cdv qual = true)
    (hbind : ∀ s a vs, vs.length = (mk a).length → (KK gd.w.params).In s.heap → BindsTo s (fnOf name qual params body scope dV kV doc pm an cdv ct) ⟨vs, []⟩ (names.zip vs)) (hloc : ∀ y ∈ names, scope.names.lookup y = some .local)
    (hu : ∀ a x b oc', (names.zip (mk a)).reverse.lookup x = some (.own b oc') → b = a ∧ oc' = o1)
    (hb : ∀ (c : Cx) a, c.gd = gd → c.Ok lev → c.scope = scope → c.name = qual → c.own = [a] → BlJ c (names.zip (mk a)).reverse body (.ret r [(a, o2)]))
    (hco : scope.isCoroutine = false := by rfl) (hgen : scope.isGenerator = false := by rfl) (hk : scope.kind = .function := by rfl)
    (hcell : ∀ x ∈ scope.names, x.2 ≠ .cell := by decide) : ConB gd (lev + 1) (.ref f) mk o1 o2 r := fun k h tk vs R a eg ok fo hH hX haX haF hT hh rs kR => by
  subst eg
  have hL : ∀ a o, h.get? a = some o → a ≠ h.objs.size := fun a o e => Nat.ne_of_lt (Heap.lt_size e)
  refine enter_fn (as := (mk a).map unown) names ho hcd (fun s vs hl X => hbind s a vs (by rw [hl, List.length_map]) X) hloc ok fo hH hX (reps_unown rs) (not_unown _) (fun h₁ tk₁ okc S hk₁ hlt _ => ?_) hco hgen hk hcell
  rw [zip_unown, ← List.map_reverse] at S
  have hT1 : There h₁ a := let ⟨o, e, n⟩ := hT; ⟨o, hk₁ a o e, n⟩
  have S2 := restage S hT1 (hh.keep fun o e => hk₁ a o e) (hu a)
  have haL : a ≠ h.objs.size := let ⟨o, e, _⟩ := hT; hL a o e
  have ok2 : ((k.cx qual scope h.objs.size f cdv).owns a).Ok lev := ⟨okc.gr, okc.stack, okc.depth, okc.units, okc.kind, okc.hand, okc.frX, okc.hX, fun b hb => by rw [List.mem_singleton.mp hb]; exact .tail _ haX, fun b hb z => by
    rw [List.mem_singleton.mp hb] at z
    rcases List.mem_cons.mp z with z | z
    · exact haL z
    · exact haF z⟩
  refine hb ((k.cx qual scope h.objs.size f cdv).owns a) a rfl ok2 rfl rfl rfl h₁ _ _ _ S2 fun h' tk' v q rv hσ => ?_
  refine kR h' tk' v ⟨(Live.of_keeps hk₁).trans q.1, fun b o n nb e => q.2.1 b o (fun z => (List.mem_cons.mp z).elim (hL b o e) n) (fun z => nb (List.mem_singleton.mp z)) (hk₁ b o e), fun b o nb e => q.2.2 b o (hL b o e) (fun z => nb (List.mem_singleton.mp z)) (hk₁ b o e)⟩ (Rep.mono (V := vw h' (h.objs.size :: k.X)) (W := vw h' k.X) vle_tail rv) (q.1 a hT1) (hσ _ (.head _))
section
variable {c : Cx} {lev : Nat} {ρ : Loc}
theorem St.turnX {x : Str} {a : Addr} {oc oc' : OC} {h h' : Heap} (ok : c.Ok lev) (S : St c ρ h) (hl : ρ.lookup x = some (.own a oc)) (hu : ∀ y b oc, ρ.lookup y = some (.own b oc) → y = x ∨ b ≠ a) (k : KpX a c.fr h h') (ht : There h' a) (hh : Holds c.gd.w h' a oc') : St c ((x, .own a oc') :: ρ) h' ∧ KpS c h h' := by
  obtain ⟨ha, _⟩ := S.own x a oc hl
  have haX := ok.ownX a ha
  have haF := ok.ownF a ha
  refine ⟨⟨?_, fun b o q => k.2.1 b o (fun z => ok.hX b o q (ok.frX b z)) (fun z => ok.hX b o q (z ▸ haX)) (S.keep b o q), fun env hv => ?_, fun b hb => ?_, fun b hb => ?_, fun y b oc2 q => ?_⟩, k.1, fun b o n n' q => k.2.1 b o n (fun z => n' (z ▸ ha)) q, fun b o n n' q => k.2.2 b o (fun z => n' (z ▸ ha)) q⟩
  · obtain ⟨m, n1, r1⟩ := S.ns
    obtain ⟨o, es, ep, q1, q2, q3⟩ := n1
    obtain ⟨sl, q4⟩ := k.2.2 _ _ (fun z => haF (z ▸ .head _)) q1
    refine ⟨m, ⟨_, es, ep, q4, q2, q3⟩, fun y b q => ?_⟩
    have mono : VLe (vw h c.X) (vw h' c.X) := fun d o e => by
      unfold vw at e ⊢
      split at e
      · cases e
      · rename_i q
        rw [if_neg q]
        exact k.2.1 d o (fun z => q (ok.frX d z)) (fun z => q (z ▸ haX)) e
    rw [List.lookup_cons] at q
    split at q
    · rename_i z
      cases q
      obtain ⟨v, e1, e2⟩ := r1 x _ hl
      cases e2
      exact ⟨_, by rw [beq_iff_eq.mp z]; exact e1, .own⟩
    · obtain ⟨v, e1, e2⟩ := r1 y b q
      exact ⟨v, e1, e2.mono mono⟩
  · obtain ⟨a1, L, o, es, ep, b1, c1, d1⟩ := S.frs env hv
    obtain ⟨sl, q4⟩ := k.2.2 L o (fun z => haF (z ▸ List.mem_cons_of_mem _ (List.mem_filterMap.mpr ⟨env, hv, b1⟩))) c1
    exact ⟨a1, L, _, es, ep, b1, q4, d1⟩
  · by_cases z : b = a
    · obtain ⟨o, q, _⟩ := ht
      exact z ▸ ⟨o, q⟩
    · obtain ⟨o, q⟩ := S.xlt b hb
      obtain ⟨sl, q⟩ := k.2.2 b o z q
      exact ⟨_, q⟩
  · by_cases z : b = a
    · exact z ▸ ht
    · exact k.1 b (S.oth b hb)
  · rw [List.lookup_cons] at q
    split at q
    · cases q
      exact ⟨ha, hh⟩
    · rename_i z
      obtain ⟨q1, q2⟩ := S.own y b oc2 q
      rcases hu y b oc2 q with rfl | hne
      · rw [beq_self_eq_true] at z; cases z
      · exact ⟨q1, q2.keep fun o q => k.2.1 b o (ok.ownF b q1) hne q⟩
theorem wp_callB {fe : Expr} {f : Value} {e : Expr} {es : List Expr} {p : Pos} {x : Str} {a : Addr} {mk : Addr → List AV} {oc oc' : OC} {r : AV} {h : Heap} {tk : Nat} {Q : Value → Shared → Prop} {E : Value → Shared → Prop} (ok : c.Ok (lev + 1)) (h1 : EvJ c ρ fe (.glob f)) (h2 : EvsJ c ρ (e :: es) (mk a)) (h3 : ConB c.gd lev f mk oc oc' r) (hf : keepIn (KK c.gd.w.params) f = true) (hl : ρ.lookup x = some (.own a oc)) (hu : ∀ y b oc, ρ.lookup y = some (.own b oc) → y = x ∨ b ≠ a)
    (he : eval (.Call fe (e :: es) [] p) c.env = (do callWith p (← eval fe c.env) [] (backTo p (starEach (e :: es) c.env)) (backToKw p (keywordEach [] c.env))))
    (hs : starEach (e :: es) c.env = (false, eval e c.env) :: starEach es c.env) (hp : (backTo p (starEach es c.env)).any (·.1) = false) (S : St c ρ h)
    (k : ∀ h' tk' v, St c ((x, .own a oc') :: ρ) h' → KpS c h h' → Rep (vw h' c.X) v r → Q v (c.sh h' tk')) : wpAny c.M c.B (eval (.Call fe (e :: es) [] p) c.env) Q E (c.sh h tk) := by
  refine Call_ (h1 h tk _ _ S fun h' tk' v k1 r1 => ?_) he
  obtain rfl := r1.i
  have S1 := S.kp ok k1
  refine callWith_K (S1.gr ok).kx hf (h2 p h' tk' _ _ S1 fun h'' tk'' vs k2 rs => ?_) hs hp
  have S2 := S1.kp ok k2
  refine ⟨(S2.gr ok).kx, wpAny_call ?_⟩
  obtain ⟨ha, hh⟩ := S2.own x a oc hl
  refine h3 c.cc h'' tk'' vs _ a rfl ok.cc (S2.cc ok) S2.keep S2.xlt (ok.ownX a ha) (ok.ownF a ha) (S2.oth a ha) hh rs fun h3 tk3 v3 k3 r3 ht3 hh3 => ?_
  obtain ⟨S3, k4⟩ := S2.turnX ok hl hu k3 ht3 hh3
  exact k h3 tk3 v3 S3 ((k1.trans k2).s.trans k4) r3
theorem sm_callB {fe : Expr} {f : Value} {e : Expr} {es : List Expr} {p yp sp : Pos} {x y : Str} {a : Addr} {mk : Addr → List AV} {oc oc' : OC} {r : AV} (ok : c.Ok (lev + 1)) (h1 : EvJ c ρ fe (.glob f)) (h2 : EvsJ c ρ (e :: es) (mk a)) (h3 : ConB c.gd lev f mk oc oc' r) (hf : keepIn (KK c.gd.w.params) f = true) (hl : ρ.lookup x = some (.own a oc)) (hu : ∀ y b oc, ρ.lookup y = some (.own b oc) → y = x ∨ b ≠ a) (hy : c.env.kindOf y = some .local) (hr : r.isOwn = false)
    (he : eval (.Call fe (e :: es) [] p) c.env = (do callWith p (← eval fe c.env) [] (backTo p (starEach (e :: es) c.env)) (backToKw p (keywordEach [] c.env))))
    (hs : starEach (e :: es) c.env = (false, eval e c.env) :: starEach es c.env) (hp : (backTo p (starEach es c.env)).any (·.1) = false) (hsw : swapsWith (.Call fe (e :: es) [] p) (some (.Name y yp)) sp.line c.env = pure false) :
    SmJ c ρ (.Assign [.Name y yp] (.Call fe (e :: es) [] p) sp) (.nxt ((y, r) :: (x, .own a oc') :: ρ)) := fun h tk Q E S kq =>
  wpAny_Assign_Name (wp_callB ok h1 h2 h3 hf hl hu he hs hp S fun h' tk' v S' k1 r1 => store_name ok S' r1 hr hy fun h2 tk2 k2 S2 => kq h2 tk2 (k1.trans k2) S2) hsw
theorem St.ownify {x : Str} {a : Addr} {oc : OC} {h : Heap} (S : St (c.hide a) ρ h) (hl : ρ.lookup x = some (.glob (.ref a))) (ht : There h a) (hh : Holds c.gd.w h a oc) : St (c.ownify a) ((x, .own a oc) :: ρ) h := by
  refine ⟨?_, S.keep, S.frs, S.xlt, fun b hb => ?_, fun y b oc q => ?_⟩
  · obtain ⟨m, n1, r1⟩ := S.ns
    refine ⟨m, n1, fun y b q => ?_⟩
    rw [List.lookup_cons] at q
    split at q
    · rename_i z
      cases q
      obtain ⟨v, e1, e2⟩ := r1 x _ hl
      cases e2
      exact ⟨_, by rw [beq_iff_eq.mp z]; exact e1, .own⟩
    · exact r1 y b q
  · rcases List.mem_cons.mp hb with rfl | hb
    · exact ht
    · exact S.oth b hb
  · rw [List.lookup_cons] at q
    split at q
    · cases q
      exact ⟨.head _, hh⟩
    · obtain ⟨q1, q2⟩ := S.own y b oc q
      exact ⟨.tail _ q1, q2⟩
end
noncomputable def mix1 (s n : Int) : Int := ((s + 15485867 * n + 13) ^ 5).fmod 2147483647
noncomputable def mix2 (s n : Int) : Int := ((mix1 s n * 48271 + 7919 * n) ^ 3).fmod 4611686018427387847
structure BoxS where
  g : Int
  s : Int
  n : Int
noncomputable abbrev BoxS.oc (b : BoxS) : OC := .box b.g b.s b.n
noncomputable def takeD (b : BoxS) (many : Int) : Int := if 0 < b.g then b.g.fmod many else ((mix2 b.s (b.n + 1)).fdiv 64).fmod many
noncomputable def takeB (b : BoxS) (many : Int) : BoxS := if 0 < b.g then ⟨b.g.fdiv many, b.s, b.n⟩ else ⟨b.g, b.s, b.n + 1⟩
structure BoxOk (b : BoxS) (m : Int) : Prop where
  s0 : 0 ≤ b.s
  s1 : b.s < 2 ^ 31
  n0 : 0 ≤ b.n
  n1 : b.n ≤ m
theorem takeB_ok {b : BoxS} {m many : Int} (h : BoxOk b m) : BoxOk (takeB b many) (m + 1) := by
  have := h.n1
  have := h.n0
  unfold takeB
  split
  · exact ⟨h.s0, h.s1, h.n0, by show b.n ≤ m + 1; omega⟩
  · exact ⟨h.s0, h.s1, by show 0 ≤ b.n + 1; omega, by show b.n + 1 ≤ m + 1; omega⟩
theorem fmod_range {a b : Int} (hb : 0 < b) : 0 ≤ a.fmod b ∧ a.fmod b < b := by
  rw [Int.fmod_eq_emod_of_nonneg _ (Int.le_of_lt hb)]
  exact ⟨Int.emod_nonneg _ (by omega), Int.emod_lt_of_pos _ hb⟩
theorem takeD_range {b : BoxS} {many : Int} (hm : 0 < many) : 0 ≤ takeD b many ∧ takeD b many < many := by
  unfold takeD
  split <;> exact fmod_range hm
section
theorem bits5 {a : Int} {k : Nat} (h : a.natAbs < 2 ^ 64) : (Builtin.Int.intBits a : Int) ≤ 64 := by
  have := intBits_le h; omega
theorem hu_of {ρ : Loc} {x : Str} {a : Addr} (h : (ρ.all fun p => !p.2.isOwn || p.1 == x) = true) : ∀ y b oc, ρ.lookup y = some (.own b oc) → y = x ∨ b ≠ a := fun y b oc e => by
  have := List.all_eq_true.mp h _ (lookup_mem e)
  exact .inl (beq_iff_eq.mp (by simpa [AV.isOwn] using this))
theorem one_own {ρ : Loc} {x : Str} {a : Addr} {oc : OC} (hl : ρ.lookup x = some (.own a oc)) : ∀ q ∈ [(a, oc)], ∃ x, ρ.lookup x = some (.own q.1 q.2) := fun q hq => by
  rw [List.mem_singleton.mp hq]; exact ⟨x, hl⟩
theorem take_body {c : Cx} {lev} {a : Addr} (ok : c.Ok lev) (hs : c.scope = fnScope (astAt 36)) (b : BoxS) {m : Int} (hb : BoxOk b m) (hm : m ≤ 1000) (many : Int) (h0 : 0 < many) (h1 : many ≤ 2 ^ 40) :
    BlJ c [(sO "many", .int many), (sO "box", .own a b.oc)] (fnBody (astAt 36)) (.ret (.int (takeD b many)) [(a, (takeB b many).oc)]) := by
  have z0 := hb.s0
  have z1 := hb.s1
  have z2 := hb.n0
  have z3 := hb.n1
  have np : Builtin.divisionGoesByPylong b.g many = false := PyProof.noPylong_of_log2 (by
    have : many.natAbs.log2 < 41 := (Nat.log2_lt (by omega)).mpr (by omega)
    omega)
  have hm0 : many ≠ 0 := by omega
  by_cases hg : 0 < b.g
  · have e1 : takeD b many = b.g.fmod many := by unfold takeD; rw [if_pos hg]
    have e2 : takeB b many = ⟨b.g.fdiv many, b.s, b.n⟩ := by unfold takeB; rw [if_pos hg]
    rw [e1, e2]
    refine' bl_if ok (b := true) ?t (fun _ => rfl) (fun _ => ?x) (fun h => nomatch h)
    case t =>
      refine' ts_eq (ts_cmp ok (ev_boxget (i := 0) (by decide) ok ?l (kd hs (by kernel_rfl)) (by kernel_rfl) (fun _ _ => rfl)) ev_int op_gt rfl) (decide_eq_true hg)
      case l => walk_at "lk"
    case x =>
    refine' bl_cons (sm_assign (a := .int (b.g.fmod many)) ok ?v1 (kd hs (by kernel_rfl)) rfl rfl) ?d1
    case v1 =>
      refine' ev_bin ok (ev_boxget (i := 0) (by decide) ok ?l (kd hs (by kernel_rfl)) (by kernel_rfl) (fun _ _ => rfl)) ?r (op_mod hm0)
      case l => walk_at "lk"
      case r => walk_at "ev"
    case d1 =>
    refine' bl_cons (sm_boxset (x := sO "box") (i := 0) (v := b.g.fdiv many) (by decide) ok ?v2 (a := a) (g := b.g) (s := b.s) (n := b.n) ?l2 (kd hs (by kernel_rfl)) (by kernel_rfl) ?u2 rfl) ?d2
    case v2 =>
      refine' ev_bin ok (ev_boxget (i := 0) (by decide) ok ?l (kd hs (by kernel_rfl)) (by kernel_rfl) (fun _ _ => rfl)) ?r (op_fdiv hm0 np)
      case l => walk_at "lk"
      case r => walk_at "ev"
    case l2 => walk_at "lk"
    case u2 => exact hu_of (by kernel_rfl)
    case d2 =>
    refine' bl_ret (sm_returnS ok ?v3 ?s3)
    case v3 => walk_at "ev"
    case s3 => exact one_own lk_here
  · have e1 : takeD b many = ((mix2 b.s (b.n + 1)).fdiv 64).fmod many := by unfold takeD; rw [if_neg hg]
    have e2 : takeB b many = ⟨b.g, b.s, b.n + 1⟩ := by unfold takeB; rw [if_neg hg]
    rw [e1, e2]
    refine' bl_if ok (b := false) ?t (fun h => nomatch h) (fun h => nomatch h) (fun _ => ?x)
    case t =>
      refine' ts_eq (ts_cmp ok (ev_boxget (i := 0) (by decide) ok ?l (kd hs (by kernel_rfl)) (by kernel_rfl) (fun _ _ => rfl)) ev_int op_gt rfl) (decide_eq_false hg)
      case l => walk_at "lk"
    case x =>
    refine' bl_cons (sm_boxset (x := sO "box") (i := 2) (v := b.n + 1) (by decide) ok ?v2 (a := a) (g := b.g) (s := b.s) (n := b.n) ?l2 (kd hs (by kernel_rfl)) (by kernel_rfl) ?u2 rfl) ?d2
    case v2 =>
      refine' ev_bin ok (ev_boxget (i := 2) (by decide) ok ?l (kd hs (by kernel_rfl)) (by kernel_rfl) (fun _ _ => rfl)) ev_int op_add
      case l => walk_at "lk"
    case l2 => walk_at "lk"
    case u2 => exact hu_of (by kernel_rfl)
    case d2 =>
    have m5 : ∀ x : Int, IntMulOk 15485867 x := fun x => .of_left (intBits_le_64 (by decide) (by decide))
    have m1r := fmod_range (a := (b.s + 15485867 * (b.n + 1) + 13) ^ 5) (b := 2147483647) (by decide)
    refine' bl_cons (sm_assign (a := .int (mix1 b.s (b.n + 1))) ok ?v3 (kd hs (by kernel_rfl)) rfl rfl) ?d3
    case v3 =>
      refine' ev_eq (ev_bin ok (ev_bin ok (ev_bin ok (ev_bin ok (ev_boxget (i := 1) (g := b.g) (s := b.s) (n := b.n + 1) (by decide) ok ?l (kd hs (by kernel_rfl)) (by kernel_rfl) (fun _ _ => rfl)) (ev_bin ok ev_int (ev_boxget (i := 2) (g := b.g) (s := b.s) (n := b.n + 1) (by decide) ok ?l' (kd hs (by kernel_rfl)) (by kernel_rfl) (fun _ _ => rfl)) (op_mul (m5 _))) op_add) ev_int op_add) ev_int (op_pow (by decide) ?z)) ev_int (op_mod (by decide))) rfl
      case l => exact lk_here
      case l' => exact lk_here
      case z =>
        have : (b.s + 15485867 * (b.n + 1) + 13).natAbs < 2 ^ 64 := by omega
        have := bits5 (k := 0) this
        show (Builtin.Int.intBits (b.s + 15485867 * (b.n + 1) + 13) : Int) * 5 ≤ 2 ^ 27
        omega
    case d3 =>
    have q1 : 0 ≤ mix1 b.s (b.n + 1) ∧ mix1 b.s (b.n + 1) < 2147483647 := m1r
    have m6 : ∀ x : Int, IntMulOk x 48271 := fun x => .of_right (intBits_le_64 (by decide) (by decide))
    have m7 : ∀ x : Int, IntMulOk 7919 x := fun x => .of_left (intBits_le_64 (by decide) (by decide))
    refine' bl_cons (sm_assign (a := .int (mix2 b.s (b.n + 1))) ok ?v4 (kd hs (by kernel_rfl)) rfl rfl) ?d4
    case v4 =>
      refine' ev_eq (ev_bin ok (ev_bin ok (ev_bin ok (ev_bin ok ?n1 ev_int (op_mul (m6 _))) (ev_bin ok ev_int (ev_boxget (i := 2) (g := b.g) (s := b.s) (n := b.n + 1) (by decide) ok ?l (kd hs (by kernel_rfl)) (by kernel_rfl) (fun _ _ => rfl)) (op_mul (m7 _))) op_add) ev_int (op_pow (by decide) ?z)) ev_int (op_mod (by decide))) rfl
      case n1 => walk_at "ev"
      case l => exact lk_next (by kernel_rfl) lk_here
      case z =>
        generalize mix1 b.s (b.n + 1) = u at q1
        have : (u * 48271 + 7919 * (b.n + 1)).natAbs < 2 ^ 64 := by omega
        have := bits5 (k := 0) this
        show (Builtin.Int.intBits (u * 48271 + 7919 * (b.n + 1)) : Int) * 3 ≤ 2 ^ 27
        omega
    case d4 =>
    refine' bl_ret (sm_returnS ok (ev_bin ok (ev_bin ok ?n2 ev_int (op_fdiv (by decide) (PyProof.noPylong_small (by decide)))) ?n3 (op_mod hm0)) ?s3)
    case n2 => walk_at "ev"
    case n3 => walk_at "ev"
    case s3 => exact one_own (x := sO "box") (lk_next (by kernel_rfl) (lk_next (by kernel_rfl) lk_here))
end
theorem con_take (gd : Gd) (lev : Nat) (b : BoxS) {m : Int} (hb : BoxOk b m) (hm : m ≤ 1000) (many : Int) (h0 : 0 < many) (h1 : many ≤ 2 ^ 40) : ConB gd (lev + 1) (.ref 1094) (fun a => [.own a b.oc, .int many]) b.oc (takeB b many).oc (.int (takeD b many)) :=
  con_fnB (lev := lev) [sO "box", sO "many"] (show (KK gd.w.params).lookup 1094 = some (o1094 gd.w.params) by kernel_rfl) (by kernel_rfl)
    (fun s a vs hl _ => by obtain ⟨a0, a1, rfl⟩ := len2 hl; exact .of_eq (by kernel_rfl)) (by decide +kernel)
    (fun a x b' oc' e => by
      have := lookup_mem e
      simp only [List.zip_cons_cons, List.zip_nil_left, List.reverse_cons, List.reverse_nil, List.nil_append, List.cons_append, List.mem_cons, Prod.mk.injEq, List.not_mem_nil, or_false] at this
      rcases this with ⟨_, q⟩ | ⟨_, q⟩
      · cases q
      · cases q; exact ⟨rfl, rfl⟩)
    (fun c a hg ok hs hn ho => take_body ok hs b hb hm many h0 h1) (by kernel_rfl) (by kernel_rfl) (by kernel_rfl) (by decide +kernel)
noncomputable def five : List Str := [sO "rd", sO "rs1", sO "rs2", sO "imm", sO "csr"]
noncomputable def getF (i : Ins) (what : Str) : Int := ((insF i).lookup what).getD 0
theorem lkF_any {what : Str} (h : what ∈ five) (i : Ins) : (insF i).lookup what = some (getF i what) := by
  unfold five at h
  unfold getF
  simp only [List.mem_cons, List.not_mem_nil, or_false] at h
  rcases h with rfl | rfl | rfl | rfl | rfl
  · rw [show (insF i).lookup (sO "rd") = some i.rd from lkF_rd]; rfl
  · rw [show (insF i).lookup (sO "rs1") = some i.rs1 from lkF_rs1]; rfl
  · rw [show (insF i).lookup (sO "rs2") = some i.rs2 from lkF_rs2]; rfl
  · rw [show (insF i).lookup (sO "imm") = some i.imm from lkF_imm]; rfl
  · rw [show (insF i).lookup (sO "csr") = some i.csr from lkF_csr]; rfl
noncomputable def bitOf (w : Int) (k : Nat) : Int := (w.fdiv (2 ^ (31 - k))).fmod 2
noncomputable def drawStep (bs : Bits) (w : Int) (i : Ins) (k : Nat) : Ins := match bs[k]? with
  | some (what, worth) => if (!(what == sO "")) && (bitOf w k == 1) then setI i what (getF i what + worth) else i
  | none => i
noncomputable def drawn (bs : Bits) (w : Int) (nm : Str) : Nat → Ins
  | 0 => ⟨nm, 0, 0, 0, 0, 0⟩
  | k + 1 => drawStep bs w (drawn bs w nm k) k
theorem drawn_nm (bs : Bits) (w : Int) (nm : Str) : ∀ k, (drawn bs w nm k).nm = nm
  | 0 => rfl
  | k + 1 => by
    have := drawn_nm bs w nm k
    unfold drawn drawStep
    split
    · split
      · exact this
      · exact this
    · exact this
structure BitsOk (bs : Bits) : Prop where
  len : bs.length = 32
  what : ∀ p ∈ bs, p.1 = sO "" ∨ p.1 ∈ five
section
variable {c : Cx} {lev : Nat} {ρ : Loc}
theorem bl_pre {ρ' : Loc} {ss out} (h : BlJ c ρ' ss out) (w : ∀ x a, ρ'.lookup x = some a → ρ.lookup x = some a) : BlJ c ρ ss out := fun hp tk Q E S k => h hp tk Q E (S.weak w) k
theorem wk_same {p : Str} {v : AV} {base rest : Loc} (w : ∀ x a, (x == p) = false → base.lookup x = some a → rest.lookup x = some a) : ∀ x a, List.lookup x ((p, v) :: base) = some a → List.lookup x ((p, v) :: rest) = some a := fun x a e => by
  rw [List.lookup_cons] at e ⊢
  cases q : (x == p) with
  | true => rw [q] at e; exact e
  | false => rw [q] at e; exact w x a q e
theorem wk_drop {p y : Str} {v : AV} {base rest : Loc} (n : base.lookup y = none) (w : ∀ x a, (x == p) = false → base.lookup x = some a → rest.lookup x = some a) : ∀ x a, (x == p) = false → base.lookup x = some a → List.lookup x ((y, v) :: rest) = some a := fun x a e q => by
  rw [List.lookup_cons]
  split
  · rename_i z; rw [beq_iff_eq.mp z, n] at q; cases q
  · exact w x a e q
theorem wk_dropP {p : Str} {v : AV} {base rest : Loc} (w : ∀ x a, (x == p) = false → base.lookup x = some a → rest.lookup x = some a) : ∀ x a, (x == p) = false → base.lookup x = some a → List.lookup x ((p, v) :: rest) = some a := fun x a e q => by
  rw [List.lookup_cons, e]; exact w x a e q
theorem bl_first {x y bx : Str} {fe : Expr} {f : Value} {e : Expr} {es : List Expr} {cp tp vp sp p1 p2 : Pos} {n1 n2 : Nat} {a : Addr} {mk : Addr → List AV} {oc oc' : OC} {w : Int} {keys vals dp kvs ss out} (ok : c.Ok (lev + 1)) (h1 : EvJ c ρ fe (.glob f)) (h2 : EvsJ c ρ (e :: es) (mk a)) (h3 : ConB c.gd lev f mk oc oc' (.int w)) (hf : keepIn (KK c.gd.w.params) f = true) (hl : ρ.lookup bx = some (.own a oc)) (hu : ∀ y b oc, ρ.lookup y = some (.own b oc) → y = bx ∨ b ≠ a)
    (he : eval (.Call fe (e :: es) [] cp) c.env = (do callWith cp (← eval fe c.env) [] (backTo cp (starEach (e :: es) c.env)) (backToKw cp (keywordEach [] c.env))))
    (hs : starEach (e :: es) c.env = (false, eval e c.env) :: starEach es c.env) (hp : (backTo cp (starEach es c.env)).any (·.1) = false)
    (hd : EpJ c ((bx, .own a oc') :: ρ) keys vals dp kvs) (hn : (kvs.map (·.1)).Nodup) (hall : keys.all (·.isSome) = true) (hlen : keys.length = vals.length) (h0 : keys ≠ []) (h15 : keys.length ≤ 15)
    (hx : c.env.kindOf x = some .local) (hy : c.env.kindOf y = some .local) (hxy : (y == x) = false)
    (hS1 : starEach [.Call fe (e :: es) [] cp, .Dict keys vals dp] c.env = (false, eval (.Call fe (e :: es) [] cp) c.env) :: starEach [.Dict keys vals dp] c.env) (hS2 : starEach [.Dict keys vals dp] c.env = (false, eval (.Dict keys vals dp) c.env) :: starEach [] c.env)
    (hsw : swapsWithSole [.Tuple [.Name x p1, .Name y p2] n1 tp] (.Tuple [.Call fe (e :: es) [] cp, .Dict keys vals dp] n2 vp) sp.line c.env = pure false) (hw : swappedStores [.Tuple [.Name x p1, .Name y p2] n1 tp] (.Tuple [.Call fe (e :: es) [] cp, .Dict keys vals dp] n2 vp) c.env = pure (some [x, y])) (hends : out.ends = true)
    (hb : ∀ d, (c.ownify d).Ok (lev + 1) → d ≠ a → BlJ (c.ownify d) ((y, .own d (.dict kvs)) :: (x, .int w) :: (y, .glob (.ref d)) :: (bx, .own a oc') :: ρ) ss out) :
    BlJ c ρ (.Assign [.Tuple [.Name x p1, .Name y p2] n1 tp] (.Tuple [.Call fe (e :: es) [] cp, .Dict keys vals dp] n2 vp) sp :: ss) out := fun h tk Q E S k => by
  refine wpAny_execs_cons (Assign_Tuple_swapped (names := [x, y]) (Tuple_ (args_cons (wp_callB ok h1 h2 h3 hf hl hu he hs hp S fun h1' tk1 v1 S1 k1 r1 => args_cons (dict_new ok hd hn hall hlen h0 h15 S1 fun h2' tk2 d vs k2 hnd hdX ns hD kv => args_nil ?_) hS2) hS1)) hsw hw)
  obtain ⟨_, rfl⟩ := r1.i
  rename_i t1
  have kp : ∀ o, Kp c.fr h2' (h2'.push o) := fun o => Kp.push _
  have hdl : ∃ o, h2'.get? d = some o := let ⟨o, _, _, e, _⟩ := hD; ⟨o, e⟩
  have hHd : c.gd.H.get? d = none := by
    cases q : c.gd.H.get? d with
    | none => rfl
    | some o => rw [S1.keep d o q] at hnd; cases hnd
  have okh := ok.hide hHd
  have hf' : d ∉ c.fr := fun z => hdX (ok.frX _ z)
  have ho' : d ∉ c.own := fun z => hdX (ok.ownX _ z)
  refine wpAny_newTuple ?_ (by rw [sizeLine_eq]; simp)
  have it : IsTup (h2'.push { cls := Value.type "tuple", data := Data.seq [.int w t1, .ref d].toArray }) h2'.objs.size [.int w t1, .ref d].toArray := ⟨_, Heap.get?_push_size _ rfl, rfl, _, rfl⟩
  rw [show [x, y].length = ([.int w t1, .ref d] : List Value).toArray.size from rfl]
  refine unpackItems_tuple (s := c.sh _ tk2) (show c.B.handled = none from ok.hand) it fun h4 he4 => ?_
  have k3 : Kp c.fr h1' h4 := (k2.trans (kp _)).trans (Kp.extBut (fr := c.fr) he4)
  have hD4 : ∃ o, h4.get? d = some o := by
    obtain ⟨o, e⟩ := hdl
    exact ⟨o, he4 d o (Nat.ne_of_lt (Heap.lt_size (Heap.get?_push_of_some _ e))) (Heap.get?_push_of_some _ e)⟩
  have S4 : St (c.hide d) ((bx, .own a oc') :: ρ) h4 := S1.hide ok k3 hnd hD4
  refine stos_do (c := c.hide d) okh (xs := [y, x]) (as := [.glob (.ref d), .int w]) (.cons (sto_bind hy) (.cons (sto_bind hx) .nil)) (.cons .glob (.cons .int .nil)) rfl rfl S4 fun h5 tk5 k5 S5 => ?_
  have hD5 : h5.DictOf (strKind PG c.gd.w) d vs := ((hD.at fun o e => he4 d o (Nat.ne_of_lt (Heap.lt_size (Heap.get?_push_of_some _ e))) (Heap.get?_push_of_some _ e)).at fun o e => k5.2.1 d o hf' ho' e)
  have S6 : St (c.ownify d) ((y, .own d (.dict kvs)) :: (x, .int w) :: (y, .glob (.ref d)) :: (bx, .own a oc') :: ρ) h5 := St.ownify S5 (lk_next hxy lk_here) (There.dict hD5) ⟨vs, hD5, kv⟩
  have k6 : KpS c h h5 := (k1.trans k3.s).trans (kps_hide k5)
  have hn0 : h.get? d = none := by
    cases q : h.get? d with
    | none => rfl
    | some o => rw [k1.2.1 d o hf' ho' q] at hnd; cases hnd
  have hda : d ≠ a := fun z => by
    obtain ⟨q, _⟩ := S.own bx a oc hl
    exact ho' (z ▸ q)
  have fin := hb d (ok.ownify hHd hdX) hda h5 tk5 Q E S6 (OutK.ownify k6 hn0 hends k)
  exact fin
end
theorem gl_take (P : Params) : nsIn (KK P) mainGlobals (Str.ofString "_law_take") = some (some (.ref 1094)) := by kernel_rfl
theorem kp_take (P : Params) : keepIn (KK P) (.ref 1094) = true := by kernel_rfl
section
theorem drawn_loop {c : Cx} {lev} {a d : Addr} (ok : c.Ok (lev + 3)) (hs : c.scope = fnScope (astAt 40)) (hda : d ≠ a) (oc : OC) (bs : Bits) (hbs : BitsOk bs) (nm : Str) (w : Int) (k : Nat) (hk : k < 32) {base : Loc} (hbase : base = [(sO "whole", .int w), (sO "bits", bitsAV bs), (sO "name", .str nm), (sO "box", .own a oc)]) :
    BlJ c ((sO "k", .int k) :: (sO "parts", .own d (.dict (insF (drawn bs w nm k)))) :: base) (forBody (nthSt (fnBody (astAt 40)) 1)) (.nxt ((sO "parts", .own d (.dict (insF (drawn bs w nm (k + 1))))) :: base)) := by
  obtain ⟨what, worth, hbk⟩ : ∃ what worth, bs[k]? = some (what, worth) := ⟨_, _, List.getElem?_eq_getElem (by rw [hbs.len]; exact hk)⟩
  have hwh := hbs.what _ (List.mem_of_getElem? hbk)
  have eo : (2 : Int) ^ (31 - (k : Int)).toNat = 2 ^ (31 - k) := by
    have : (31 - (k : Int)).toNat = 31 - k := by omega
    rw [this]
  have lb : base.lookup (Str.ofString "bits") = some (bitsAV bs) := by rw [hbase]; walk_at "lk"
  have lw : base.lookup (Str.ofString "whole") = some (.int w) := by rw [hbase]; walk_at "lk"
  have nk : base.lookup (sO "k") = none ∧ base.lookup (sO "what") = none ∧ base.lookup (sO "worth") = none := by rw [hbase]; exact ⟨by kernel_rfl, by kernel_rfl, by kernel_rfl⟩
  have nkJ : ∀ st, List.lookup (sO "k") ((sO "parts", AV.own d st) :: base) = none ∧ List.lookup (sO "what") ((sO "parts", AV.own d st) :: base) = none ∧ List.lookup (sO "worth") ((sO "parts", AV.own d st) :: base) = none := fun st => by
    rw [hbase]; exact ⟨by kernel_rfl, by kernel_rfl, by kernel_rfl⟩
  have hown : ∀ y b o, base.lookup y = some (.own b o) → b ≠ d := fun y b o e => by
    rw [hbase] at e
    have := lookup_mem e
    simp only [List.mem_cons, Prod.mk.injEq, List.not_mem_nil, or_false] at this
    rcases this with ⟨_, q⟩ | ⟨_, q⟩ | ⟨_, q⟩ | ⟨_, q⟩
    · cases q
    · cases q
    · cases q
    · cases q; exact Ne.symm hda
  clear hbase
  generalize hi : drawn bs w nm k = i
  have hst : drawn bs w nm (k + 1) = if (!(what == sO "")) && (bitOf w k == 1) then setI i what (getF i what + worth) else i := by
    rw [← hi]
    show drawStep bs w _ k = _
    unfold drawStep
    rw [hbk]
  rw [hst]
  refine' bl_cons (sm_tup (as := [.str what, .int worth]) (xs := [sO "what", sO "worth"]) (ρ' := (sO "worth", .int worth) :: (sO "what", .str what) :: (sO "k", .int k) :: (sO "parts", .own d (.dict (insF i))) :: base) ok ?v1 ?s1 rfl rfl rfl rfl rfl rfl) ?d1
  case v1 =>
    refine' ev_sub ok ?b1 ?b2 (sb_list (as := bs.map bitAV) (i := k) ok (by omega) (by omega) ?b3 (fun _ _ => rfl))
    case b1 => exact ev_lk ok hs (lk2 (by kernel_rfl) (by kernel_rfl) lb) (by kernel_rfl) (by kernel_rfl)
    case b2 => walk_at "ev"
    case b3 => show (bs.map bitAV)[k]? = _; rw [List.getElem?_map, hbk]; rfl
  case s1 => exact .cons (sto_name (kd hs (by kernel_rfl))) (.cons (sto_name (kd hs (by kernel_rfl))) .nil)
  case d1 =>
  refine' bl_one (sm_if ok (b := (!(what == sO "")) && (bitOf w k == 1)) ?t ?x ?y)
  case t =>
    refine' ts_eq (ts_boolop (ta_and ok ?t1 (fun _ => ta_and ok ?t2 (fun _ => ta_and_nil)))) (by rw [Bool.and_true])
    case t1 => walk_at "ts"
    case t2 =>
      refine' ts_cmp ok (a := .int (bitOf w k)) (ev_eq (ev_bin ok (ev_bin ok ?w1 (ev_bin ok ev_int (ev_bin ok ev_int ?w2 op_sub) (op_pow (n := 31 - (k : Int)) (by omega) ?w3)) (op_fdiv ?w4 ?w5)) ev_int (op_mod (by decide))) ?w6) ev_int op_eqi rfl
      case w1 => exact ev_lk ok hs (lk2 (by kernel_rfl) (by kernel_rfl) (lk2 (by kernel_rfl) (by kernel_rfl) lw)) (by kernel_rfl) (by kernel_rfl)
      case w2 => walk_at "ev"
      case w3 =>
        have : Builtin.Int.intBits 2 = 2 := by decide
        rw [this]; omega
      case w4 => rw [eo]; exact Int.ne_of_gt (Int.pow_pos (by decide))
      case w5 =>
        rw [eo]
        refine PyProof.noPylong_of_log2 ?_
        have e2 : ((2 : Int) ^ (31 - k)).natAbs = 2 ^ (31 - k) := by rw [Int.natAbs_pow]; rfl
        rw [e2, Nat.log2_two_pow]
        omega
      case w6 => rw [eo]; rfl
  case x =>
    intro hc
    rw [if_pos hc]
    have hne : what ≠ sO "" := fun z => by rw [z, beq_self_eq_true] at hc; cases hc
    have hw5 : what ∈ five := hwh.resolve_left hne
    have hm := lkF_any hw5 i
    refine' bl_weak (bl_one (sm_ownset (x := sO "parts") (a := d) (kvs := insF i) (n := getF i what + worth) ok ?v1 ?l1 (kd hs (by kernel_rfl)) (by kernel_rfl) ?i1 hm (by simp) ?u1 rfl)) ?wk
    case v1 =>
      refine' ev_bin ok (ev_ownget (a := d) (kvs := insF i) ok ?l2 (kd hs (by kernel_rfl)) (by kernel_rfl) ?w1 hm (fun _ _ => rfl)) ?w2 op_add
      case l2 => walk_at "lk"
      case w1 => walk_at "ev"
      case w2 => walk_at "ev"
    case l1 => walk_at "lk"
    case i1 => walk_at "ev"
    case u1 =>
      intro y b o e
      by_cases hy : y = sO "parts"
      · exact .inl hy
      · right
        have e' : base.lookup y = some (.own b o) := by
          have np : ∀ (z : Str) (v : AV) (l : Loc), v.isOwn = false → List.lookup y ((z, v) :: l) = some (.own b o) → l.lookup y = some (.own b o) := fun z v l hv q => by
            rw [List.lookup_cons] at q
            split at q
            · cases q; cases hv
            · exact q
          have e3 := np _ _ _ rfl (np _ _ _ rfl (np _ _ _ rfl e))
          rw [List.lookup_cons] at e3
          split at e3
          · rename_i q; exact absurd (beq_iff_eq.mp q) hy
          · exact e3
        exact hown y b o e'
    case wk =>
      rw [setKv_insF]
      exact wk_same (wk_drop nk.2.2 (wk_drop nk.2.1 (wk_drop nk.1 (wk_dropP fun _ _ _ e => e))))
  case y =>
    intro hc
    rw [if_neg (by rw [hc]; decide)]
    exact bl_weak bl_nil (wk_cons (nkJ _).2.2 (wk_cons (nkJ _).2.1 (wk_cons (nkJ _).1 wk_nil)))
end
section
theorem drawn_body {c : Cx} {lev} {a : Addr} (ok : c.Ok (lev + 3)) (hs : c.scope = fnScope (astAt 40)) (b : BoxS) {m : Int} (hb : BoxOk b m) (hm : m ≤ 1000) (bs : Bits) (hbs : BitsOk bs) (nm : Str) :
    BlJ c [(sO "bits", bitsAV bs), (sO "name", .str nm), (sO "box", .own a b.oc)] (fnBody (astAt 40)) (.ret (drawn bs (takeD b (2 ^ 32)) nm 32).av [(a, (takeB b (2 ^ 32)).oc)]) := by
  refine' bl_first (x := sO "whole") (y := sO "parts") (bx := sO "box") (a := a) (mk := fun a => [.own a b.oc, .int (2 ^ 32)]) (oc := b.oc) (oc' := (takeB b (2 ^ 32)).oc) (w := takeD b (2 ^ 32)) (kvs := insF ⟨nm, 0, 0, 0, 0, 0⟩) ok (ev_global ok (gl_take _) ok.kind (kd hs (by kernel_rfl)) (by kernel_rfl)) ?a2 (con_take c.gd (lev + 1) b hb hm (2 ^ 32) (by decide) (by decide)) (kp_take _) ?l (hu_of (by kernel_rfl)) rfl rfl rfl
    (ep_ins (i := ⟨nm, 0, 0, 0, 0, 0⟩) ok ev_int ev_int ev_int ev_int ev_int) insF_nd rfl rfl (by simp) (by simp) (kd hs (by kernel_rfl)) (kd hs (by kernel_rfl)) (by kernel_rfl) rfl rfl rfl (sw_scope hs (by kernel_rfl)) rfl ?b
  case a2 =>
    refine' evs_cons ok ?n1 (evs_cons ok ?n2 evs_nil rfl) rfl
    case n1 => walk_at "ev"
    case n2 => exact ev_eq (ev_bin ok ev_int ev_int (op_pow (by decide) (by decide))) rfl
  case l => walk_at "lk"
  case b =>
  intro d ok hda
  have hs : (c.ownify d).scope = fnScope (astAt 40) := hs
  generalize c.ownify d = c at ok hs ⊢
  generalize takeD b (2 ^ 32) = w
  generalize (takeB b (2 ^ 32)).oc = oc'
  generalize hbase : [(sO "whole", AV.int w), (sO "bits", bitsAV bs), (sO "name", .str nm), (sO "box", .own a oc')] = base
  refine bl_pre (ρ' := (sO "parts", .own d (.dict (insF (drawn bs w nm 0)))) :: base) ?_ ?w
  case w =>
    intro x v e
    rw [← hbase] at e
    have := lookup_mem e
    simp only [List.mem_cons, Prod.mk.injEq, List.not_mem_nil, or_false] at this
    rcases this with ⟨rfl, rfl⟩ | ⟨rfl, rfl⟩ | ⟨rfl, rfl⟩ | ⟨rfl, rfl⟩ | ⟨rfl, rfl⟩
    · exact lk_here
    · walk_at "lk"
    · walk_at "lk"
    · walk_at "lk"
    · walk_at "lk"
  refine' bl_cons (sm_for (J := fun i => (sO "parts", .own d (.dict (insF (drawn bs w nm i)))) :: base) (K := fun i => (sO "k", .int (i : Nat)) :: (sO "parts", .own d (.dict (insF (drawn bs w nm i)))) :: base) (n := 32) (m := 32) (item := fun i => .int (i : Nat)) (out := .nxt ((sO "parts", .own d (.dict (insF (drawn bs w nm 32)))) :: base)) ok (fun _ => rfl) (IeS.ie (is_range1 (n := 32) ok (ev_builtin ok (gl_range _) (by decide +kernel) ok.kind (kd hs (by kernel_rfl)) (by decide +kernel) (by kernel_rfl)) (evs_cons ok ev_int evs_nil rfl) (by decide) rfl rfl)) rfl ?ht ?hb (Nat.le_refl _) (fun h => absurd h (Nat.lt_irrefl _)) (fun _ => rfl)) ?d2
  case ht => exact fun c1 L i _ _ => as_name L.ok (kd (L.scope.trans hs) (by kernel_rfl)) rfl
  case hb => exact fun c1 L i hi => drawn_loop L.ok (L.scope.trans hs) hda oc' bs hbs nm w i hi hbase.symm
  case d2 =>
  have lb : ∀ {v}, List.lookup (sO "box") ((sO "parts", v) :: base) = some (.own a oc') := fun {v} => by rw [← hbase]; walk_at "lk"
  refine' bl_ret (sm_returnS ok (ev_rebuild (x := sO "parts") (a := d) (j := drawn bs w nm 32) ok (kd hs (by kernel_rfl)) ?n lk_here (kd hs (by kernel_rfl)) (by kernel_rfl) rfl rfl) (one_own lb))
  case n =>
    rw [drawn_nm]
    exact ev_lk ok hs (by rw [← hbase]; walk_at "lk") (by kernel_rfl) (by kernel_rfl)
end
theorem con_drawn (gd : Gd) (lev : Nat) (b : BoxS) {m : Int} (hb : BoxOk b m) (hm : m ≤ 1000) (bs : Bits) (hbs : BitsOk bs) (nm : Str) : ConB gd (lev + 4) (.ref 1120) (fun a => [.own a b.oc, .str nm, bitsAV bs]) b.oc (takeB b (2 ^ 32)).oc (drawn bs (takeD b (2 ^ 32)) nm 32).av :=
  con_fnB (lev := lev + 3) [sO "box", sO "name", sO "bits"] (show (KK gd.w.params).lookup 1120 = some (o1120 gd.w.params) by kernel_rfl) (by kernel_rfl)
    (fun s a vs hl _ => by obtain ⟨a0, a1, a2, rfl⟩ := len3 hl; exact .of_eq (by kernel_rfl)) (by decide +kernel)
    (fun a x b' oc' e => by
      have := lookup_mem e
      simp only [List.zip_cons_cons, List.zip_nil_left, List.reverse_cons, List.reverse_nil, List.nil_append, List.cons_append, List.mem_cons, Prod.mk.injEq, List.not_mem_nil, or_false] at this
      rcases this with ⟨_, q⟩ | ⟨_, q⟩ | ⟨_, q⟩
      · cases q
      · cases q
      · cases q; exact ⟨rfl, rfl⟩)
    (fun c a hg ok hs hn ho => drawn_body ok hs b hb hm bs hbs nm) (by kernel_rfl) (by kernel_rfl) (by kernel_rfl) (by decide +kernel)
noncomputable def valOf (ns : List Int) (i : Nat) : Int := ns.getD i 0
noncomputable def minW (ns : List Int) : Int := valOf ns (argBest (fun i j => decide (valOf ns i < valOf ns j)) (ns.length - 1))
noncomputable def sumW (ns : List Int) : Int := preSum (valOf ns) ns.length
theorem ints_at {V : View} {vs : List Value} {ns : List Int} (rs : Reps V vs (ns.map .int)) : ∀ (i : Nat) v, vs.toArray[i]? = some v → ∃ t, v = .int (valOf ns i) t := fun i v e => by
  have e' : vs[i]? = some v := by simpa using e
  have hi : i < ns.length := by
    have := (List.getElem?_eq_some_iff.mp e').1
    rw [rs.len, List.length_map] at this
    exact this
  obtain ⟨v', q1, q2⟩ := rs.get i (.int ns[i]) (by rw [List.getElem?_map, List.getElem?_eq_getElem hi]; rfl)
  rw [e'] at q1
  cases q1
  have : valOf ns i = ns[i] := by unfold valOf; rw [List.getD_eq_getElem?_getD, List.getElem?_eq_getElem hi]; rfl
  rw [this]
  cases q2
  exact ⟨_, rfl⟩
section
variable {c : Cx} {lev : Nat} {ρ : Loc}
theorem kp_of_but {fr : List Addr} {h h' : Heap} (k : ∀ b o, b ∉ [h.objs.size] → h.get? b = some o → h'.get? b = some o) : Kp fr h h' := .of fun a o e => k a o (fun z => Nat.ne_of_lt (Heap.lt_size e) (List.mem_singleton.mp z)) e
theorem ca_sum {ns : List Int} (ok : c.Ok lev) : CaJ c (.builtin "sum") [.list (ns.map .int)] (.int (sumW ns)) := fun ρ h tk Q E vs S rs k => by
  replace rs := rs.i; obtain ⟨_, _, rfl, r, rs⟩ := rs
  obtain rfl := rs.i
  obtain ⟨l, vs, rfl, hl, rs⟩ := isList_of r
  have hlt : l < h.objs.size := let ⟨_, e, _⟩ := hl; Heap.lt_size e
  have hsz : vs.toArray.size = ns.length := by rw [List.size_toArray, rs.len, List.length_map]
  refine call_sum_walkG (s := c.sh h tk) (wpAny_pyIter_list (s := c.sh h tk) hl ⟨h.objs.size, [h.objs.size, l], [h.objs.size], vs.toArray.size, _, _, valOf ns, rfl, Walks.list (show c.B.in1.handled = none from ok.hand) h.objs.size l (Nat.ne_of_lt hlt) vs.toArray, ⟨⟨_, Heap.get?_push_size _ rfl, rfl, rfl⟩, hl.push _⟩, fun b hb => ?_, ints_at rs, fun h' tk' t' kk => ?_⟩)
  · show b < (h.push _).objs.size
    rw [Heap.size_push]
    rcases List.mem_cons.mp hb with rfl | hb
    · exact Nat.lt_succ_self _
    · rw [List.mem_singleton.mp hb]; exact Nat.lt_succ_of_lt hlt
  · rw [hsz]
    exact k h' tk' _ (kp_of_but fun b o n e => kk b o n (Heap.get?_push_of_some _ e)) .int
theorem ca_min1 {ns : List Int} (ok : c.Ok lev) (hne : 0 < ns.length) : CaJ c (.builtin "min") [.list (ns.map .int)] (.int (minW ns)) := fun ρ h tk Q E vs S rs k => by
  replace rs := rs.i; obtain ⟨_, _, rfl, r, rs⟩ := rs
  obtain rfl := rs.i
  obtain ⟨l, vs, rfl, hl, rs⟩ := isList_of r
  have hlt : l < h.objs.size := let ⟨_, e, _⟩ := hl; Heap.lt_size e
  have hsz : vs.toArray.size = ns.length := by rw [List.size_toArray, rs.len, List.length_map]
  refine call_min_walk (s := c.sh h tk) (wpAny_pyIter_list (s := c.sh h tk) hl ⟨h.objs.size, [h.objs.size, l], [h.objs.size], vs.toArray.size, _, _, fun i j => decide (valOf ns i < valOf ns j), rfl, Walks.list (show c.B.in1.handled = none from ok.hand) h.objs.size l (Nat.ne_of_lt hlt) vs.toArray, ⟨⟨_, Heap.get?_push_size _ rfl, rfl, rfl⟩, hl.push _⟩, fun b hb => ?_, by rw [hsz]; exact hne, CmpOf.ints_lt (valOf ns) (ints_at rs), fun v h' tk' hv kk => ?_⟩)
  · show b < (h.push _).objs.size
    rw [Heap.size_push]
    rcases List.mem_cons.mp hb with rfl | hb
    · exact Nat.lt_succ_self _
    · rw [List.mem_singleton.mp hb]; exact Nat.lt_succ_of_lt hlt
  · obtain ⟨t, rfl⟩ := ints_at rs _ _ hv
    rw [hsz]
    exact k h' tk' _ (kp_of_but fun b o n e => kk b o n (Heap.get?_push_of_some _ e)) .int
theorem ca_min2 {a b : Int} (ok : c.Ok lev) : CaJ c (.builtin "min") [.int a, .int b] (.int (if b < a then b else a)) := fun ρ h tk Q E vs S rs k => by
  replace rs := rs.i; obtain ⟨_, _, rfl, r, rs⟩ := rs
  replace rs := rs.i; obtain ⟨_, _, rfl, r', rs⟩ := rs
  obtain rfl := rs.i
  obtain ⟨_, rfl⟩ := r.i
  obtain ⟨_, rfl⟩ := r'.i
  rename_i t t'
  have ht : (h.push { cls := .type "tuple", data := .seq #[.int a t, .int b t'] }).IsTuple h.objs.size #[.int a t, .int b t'] := ⟨_, Heap.get?_push_size _ rfl, rfl, _, rfl⟩
  have hval : ∀ (i : Nat) v, (#[.int a t, .int b t'] : Array Value)[i]? = some v → ∃ u, v = .int (valOf [a, b] i) u := fun i v e => by
    have hi : i < 2 := by
      have := (Array.getElem?_eq_some_iff.mp e).1
      simpa using this
    have : i = 0 ∨ i = 1 := by omega
    rcases this with rfl | rfl
    · cases e; exact ⟨_, rfl⟩
    · cases e; exact ⟨_, rfl⟩
  have old : ∀ x o, h.get? x = some o → (h.push { cls := .type "tuple", data := .seq #[.int a t, .int b t'] }).get? x = some o := fun x o e => Heap.get?_push_of_some _ e
  have hz : h.objs.size < (h.push { cls := .type "tuple", data := .seq #[.int a t, .int b t'] }).objs.size := by rw [Heap.size_push]; exact Nat.lt_succ_self _
  refine call_min_two (s := c.sh h tk) ?_
  show wpAny _ _ (pyIter (.ref h.objs.size)) _ _ (c.sh (h.push { cls := .type "tuple", data := .seq #[.int a t, .int b t'] }) tk)
  generalize h.push { cls := .type "tuple", data := .seq #[.int a t, .int b t'] } = H2 at ht hz old ⊢
  refine wpAny_pyIter_tuple (s := c.sh H2 tk) ht ?_
  refine ⟨H2.objs.size, [H2.objs.size, h.objs.size], [H2.objs.size], 2, _, _, fun i j => decide (valOf [a, b] i < valOf [a, b] j), rfl, Walks.tuple (show c.B.in1.handled = none from ok.hand) H2.objs.size h.objs.size (Nat.ne_of_lt hz) #[.int a t, .int b t'], ⟨⟨_, Heap.get?_push_size _ rfl, rfl, rfl⟩, ht.push _⟩, fun x hx => ?_, by decide, CmpOf.ints_lt (valOf [a, b]) hval, fun v h' tk' hv kk => ?_⟩
  · show x < (H2.push _).objs.size
    rw [Heap.size_push]
    rcases List.mem_cons.mp hx with rfl | hx
    · exact Nat.lt_succ_self _
    · rw [List.mem_singleton.mp hx]; exact Nat.lt_succ_of_lt hz
  · obtain ⟨u, rfl⟩ := hval _ _ hv
    have e : valOf [a, b] (argBest (fun i j => decide (valOf [a, b] i < valOf [a, b] j)) (2 - 1)) = if b < a then b else a := by
      show valOf [a, b] (if decide (b < a) = true then 1 else 0) = _
      by_cases q : b < a
      · rw [if_pos q, if_pos (decide_eq_true q)]; rfl
      · rw [if_neg q, if_neg (by simpa using q)]; rfl
    rw [e]
    refine k h' tk' _ (.of fun x o e => kk x o (fun z => ?_) (Heap.get?_push_of_some _ (old x o e))) .int
    exact Nat.lt_irrefl _ ((List.mem_singleton.mp z) ▸ Heap.lt_size (old x o e))
theorem ca_len {as : List AV} (hz : as.length ≤ 1000) : CaJ c (.builtin "len") [.list as] (.int (as.length : Nat)) := fun ρ h tk Q E vs S rs k => by
  replace rs := rs.i; obtain ⟨_, _, rfl, r, rs⟩ := rs
  obtain rfl := rs.i
  obtain ⟨l, vs, rfl, hl, rs⟩ := isList_of r
  refine call_len_list (s := c.sh h tk) hl (by rw [List.size_toArray, rs.len]; omega) ?_
  rw [List.size_toArray, rs.len]
  exact k _ _ _ .refl .int
theorem ca_intb {b : Bool} : CaJ c (.type "int") [.bool b] (.int (if b then 1 else 0)) := fun ρ h tk Q E vs S rs k => by
  replace rs := rs.i; obtain ⟨_, _, rfl, r, rs⟩ := rs
  obtain rfl := rs.i
  obtain rfl := r.i
  exact call_int_bool (k _ _ _ .refl .int)
end
noncomputable abbrev NC (o : Obj) : Prop := ∀ v, o.data ≠ .cell v
mutual
theorem Rep.nc {V W : View} (k : ∀ a o, V a = some o → NC o → W a = some o) : ∀ {v a}, Rep V v a → Rep W v a
  | _, _, .none => .none
  | _, _, .bool => .bool
  | _, _, .int => .int
  | _, _, .str => .str
  | _, _, .glob => .glob
  | _, _, .tup e c d r => .tup (k _ _ e fun v z => by rw [d] at z; cases z) c d (Reps.nc k r)
  | _, _, .list e c d r => .list (k _ _ e fun v z => by rw [d] at z; cases z) c d (Reps.nc k r)
  | _, _, .own => .own
  | _, _, .dict e e' d f => .dict (k _ _ e fun v z => by obtain ⟨es, ep, _, q, _⟩ := d; rw [q] at z; cases z) e' d f
  | _, _, .inst e e' x0 x1 x2 x3 x4 x5 x6 => .inst (k _ _ e fun v z => by cases z) (k _ _ e' fun v z => by cases z) x0 x1 x2 x3 x4 x5 x6
theorem Reps.nc {V W : View} (k : ∀ a o, V a = some o → NC o → W a = some o) : ∀ {vs as}, Reps V vs as → Reps W vs as
  | _, _, .nil => .nil
  | _, _, .cons r rs => .cons (r.nc k) (rs.nc k)
end
section
variable {c : Cx} {lev : Nat} {ρ : Loc}
noncomputable def Cx.shut (c : Cx) (ca : Addr) (h : Heap) : Cx := { c with gd := { c.gd with H := hideAll h (c.X.filter (· != ca)) }, X := c.X.filter (· != ca), own := [] }
theorem mem_shut {X : List Addr} {ca a : Addr} : a ∈ X.filter (· != ca) ↔ a ∈ X ∧ a ≠ ca := by simp
theorem Cx.Ok.shut {ca : Addr} {h : Heap} (ok : c.Ok lev) (S : St c ρ h) (hca : ca ∈ c.own) : (c.shut ca h).Ok lev :=
  ⟨ok.gr.keeps fun a o e => hideAll_get _ (S.keep a o e) fun z => ok.hX a o e (mem_shut.mp z).1, ok.stack, ok.depth, ok.units, ok.kind, ok.hand, fun a ha => mem_shut.mpr ⟨ok.frX a ha, fun z => ok.ownF ca hca (z ▸ ha)⟩,
    fun a o (e : (hideAll h (c.X.filter (· != ca))).get? a = some o) z => absurd ((hideAll_none _ z).symm.trans e) nofun, (fun _ z => nomatch z), (fun _ z => nomatch z)⟩
theorem St.shut {ca : Addr} {h : Heap} (S : St c ρ h) (hno : notOwns (ρ.map (·.2)) = true) : St (c.shut ca h) ρ h :=
  ⟨let ⟨m, n, r⟩ := S.ns; ⟨m, n, fun x a e => let ⟨v, q1, q2⟩ := r x a e; ⟨v, q1, q2.mono fun a o e => by
    have aX := vw_not e
    unfold vw
    rw [if_neg (show ¬ a ∈ (c.shut ca h).X from fun z => aX (mem_shut.mp z).1)]
    exact vw_ge e⟩⟩, fun a o e => of_hideAll _ e, S.frs, fun a ha => S.xlt a (mem_shut.mp ha).1, (fun _ z => nomatch z), fun x a oc e => by
    have := notOwns_of hno _ (List.mem_map_of_mem (f := Prod.snd) (lookup_mem e)); cases this⟩
theorem bl_shut {ca : Addr} {v : Option Value} {h : Heap} {tk : Nat} {Q : Flow → Shared → Prop} {E : Value → Shared → Prop} {ss : List Stmt} (ok : c.Ok lev) (hca : c.own = [ca]) (S : St c ρ h) (hno : notOwns (ρ.map (·.2)) = true) (hc : h.IsCell ca v)
    (hb : ∀ c2, c2.Ok lev → c2.scope = c.scope → c2.gd.w = c.gd.w → c2.cells = c.cells → c2.gd.H.IsCell ca v → BlJ c2 ρ ss (.nxt ρ))
    (k : ∀ h' tk', KpS c h h' → St c ρ h' → h'.IsCell ca v → Q .next (c.sh h' tk')) : wpAny c.M c.B (execs ss c.env) Q E (c.sh h tk) := by
  have hmem : ca ∈ c.own := by rw [hca]; exact .head _
  obtain ⟨oC, eC, dC⟩ := hc
  have hH : (hideAll h (c.X.filter (· != ca))).get? ca = some oC := hideAll_get _ eC fun z => (mem_shut.mp z).2 rfl
  refine hb (c.shut ca h) (ok.shut S hmem) rfl rfl rfl ⟨oC, hH, dC⟩ h tk Q E (S.shut hno) fun h' tk' kk S' => ?_
  have eC' : h'.get? ca = some oC := S'.keep ca oC hH
  refine k h' tk' ⟨kk.1, fun a o n n' e => kk.2.1 a o n (fun z => nomatch z) e, fun a o n n' e => kk.2.2 a o n (fun z => nomatch z) e⟩ ⟨?_, fun a o e => S'.keep a o (hideAll_get _ (S.keep a o e) fun z => ok.hX a o e (mem_shut.mp z).1), S'.frs, fun a ha => ?_, fun a ha => ?_, fun x a oc e => ?_⟩ ⟨oC, eC', dC⟩
  · obtain ⟨m, n, r⟩ := S'.ns
    refine ⟨m, n, fun x a e => ?_⟩
    obtain ⟨v, q1, q2⟩ := r x a e
    refine ⟨v, q1, q2.nc fun a o e nc => ?_⟩
    have aX := vw_not e
    have aC : a ≠ ca := fun z => by
      have := vw_ge e
      rw [z, eC'] at this
      exact nc _ (Option.some.inj this ▸ dC)
    unfold vw
    rw [if_neg fun z => aX (mem_shut.mpr ⟨z, aC⟩)]
    exact vw_ge e
  · by_cases z : a = ca
    · exact z ▸ ⟨oC, eC'⟩
    · exact S'.xlt a (mem_shut.mpr ⟨ha, z⟩)
  · rw [hca] at ha
    rw [List.mem_singleton.mp ha]
    exact ⟨oC, eC', fun vs z => by rw [dC] at z; cases z⟩
  · have := notOwns_of hno _ (List.mem_map_of_mem (f := Prod.snd) (lookup_mem e)); cases this
theorem for_cell {x : Str} {p pos : Pos} {iter : Expr} {body : List Stmt} {n : Nat} {ws : Nat → Str} {ca : Addr} {h : Heap} {tk : Nat} {Q : Flow → Shared → Prop} {E : Value → Shared → Prop} (ok : c.Ok lev) (hca : c.own = [ca]) (hcl : c.cells.lookup x = some ca) (hx : c.env.kindOf x = some .cell) (hno : notOwns (ρ.map (·.2)) = true) (S : St c ρ h) (hc : ∃ v, h.IsCell ca v)
    (hf : ∀ x, foldedSetIterable iter c.env x = pure x) (h1 : IeJ c ρ (.Name x p) iter n (fun i => .str (ws i)))
    (hb : ∀ i, i < n → ∀ t c2, c2.Ok lev → c2.scope = c.scope → c2.gd.w = c.gd.w → c2.cells = c.cells → c2.gd.H.IsCell ca (some (.str (ws i) t)) → BlJ c2 ρ body (.nxt ρ))
    (kq : ∀ h' tk', KpS c h h' → St c ρ h' → Q .next (c.sh h' tk')) : wpAny c.M c.B (exec (.For (.Name x p) iter body [] pos) c.env) Q E (c.sh h tk) := by
  refine wpAny_For (h1 h tk _ _ S fun h1 tk1 it I k1 hn hl T I0 => ?_) hf
  have hH : c.gd.H.get? it = none := by
    cases q : c.gd.H.get? it with
    | none => rfl
    | some o => rw [S.keep it o q] at hn; cases hn
  have hfr : it ∉ c.fr := fun z => by obtain ⟨o, q, _⟩ := S.there it (.inl z); rw [hn] at q; cases q
  have how : it ∉ c.own := fun z => by obtain ⟨o, q, _⟩ := S.there it (.inr z); rw [hn] at q; cases q
  have hcm : ca ∈ c.own := by rw [hca]; exact .head _
  have hci : ca ≠ it := fun z => how (z ▸ hcm)
  have okh := ok.hide hH
  have S1 : St (c.hide it) ρ h1 := S.hide ok k1 hn hl
  have hc1 : ∃ v, h1.IsCell ca v := by
    obtain ⟨v, o, e, d⟩ := hc
    exact ⟨v, o, k1.2.1 ca o (ok.ownF ca hcm) e, d⟩
  refine codeAny_forLoop_any (fun k s' => ∃ i h' tk', s' = c.sh h' tk' ∧ KpS c h h' ∧ St (c.hide it) ρ h' ∧ I i h' ∧ (∃ v, h'.IsCell ca v) ∧ i ≤ n ∧ k = n + 1 - i) ?_ (n + 1) ⟨0, h1, tk1, rfl, k1.s, S1, I0, hc1, Nat.zero_le _, rfl⟩
  rintro k s' ⟨i, h', tk', rfl, kk, Si, Ii, hci', hin', rfl⟩
  by_cases hin : i < n
  · refine next_some (T.step i h' tk' _ _ hin Ii Si.xlt fun h2 tk2 v kb hl2 I2 r => ?_)
    have S2 : St (c.hide it) ρ h2 := Si.but okh kb hl2 (.head _) hfr how hH
    have kk2 : KpS c h h2 := kk.but hn kb
    have hc2 : ∃ v, h2.IsCell ca v := by
      obtain ⟨v, o, e, d⟩ := hci'
      exact ⟨v, o, kb ca o hci e, d⟩
    obtain ⟨v0, hc2⟩ := hc2
    obtain ⟨_, rfl⟩ := r.i
    rename_i t
    refine assign_Name (wpAny_storeName_cell (s := c.sh h2 tk2) ok.kind hx hcl hc2 fun h3 hc3 hs3 => ?_)
    have kb3 : ∀ b o, b ≠ ca → h2.get? b = some o → h3.get? b = some o := fun b o ne e => (hs3.2 b ne).trans e
    have th3 : There h3 ca := let ⟨o, e, d⟩ := hc3; ⟨o, e, fun vs z => by rw [d] at z; cases z⟩
    have S3 : St (c.hide it) ρ h3 := by
      obtain ⟨m, n1, r1⟩ := S2.ns
      have haX : ca ∈ (c.hide it).X := .tail _ (ok.ownX ca hcm)
      refine ⟨⟨m, ?_, fun y b q => ?_⟩, fun b o q => kb3 b o (fun z => ok.hX b o q (z ▸ ok.ownX ca hcm)) (S2.keep b o q), fun env hv => ?_, fun b hb => ?_, fun b hb => ?_, fun y b oc q => ?_⟩
      · exact n1.at' fun o e => kb3 _ o (fun z => ok.ownF ca hcm (z ▸ .head _)) e
      · obtain ⟨v, e1, e2⟩ := r1 y b q
        refine ⟨v, e1, e2.mono fun d o e => ?_⟩
        have aX := vw_not e
        unfold vw
        rw [if_neg aX]
        exact kb3 d o (fun z => aX (z ▸ haX)) (vw_ge e)
      · obtain ⟨a1, L, o, es, ep, b1, c1, d1⟩ := S2.frs env hv
        exact ⟨a1, L, o, es, ep, b1, kb3 _ _ (fun z => ok.ownF ca hcm (z ▸ List.mem_cons_of_mem _ (List.mem_filterMap.mpr ⟨env, hv, b1⟩))) c1, d1⟩
      · by_cases z : b = ca
        · obtain ⟨o, e, _⟩ := hc3; exact z ▸ ⟨o, e⟩
        · obtain ⟨o, q⟩ := S2.xlt b hb
          exact ⟨o, kb3 b o z q⟩
      · by_cases z : b = ca
        · exact z ▸ th3
        · obtain ⟨o, q, nf⟩ := S2.oth b hb
          exact ⟨o, kb3 b o z q, nf⟩
      · have := notOwns_of hno _ (List.mem_map_of_mem (f := Prod.snd) (lookup_mem q)); cases this
    have k23 : KpS c h2 h3 := ⟨fun a ⟨o, e, nf⟩ => by
      by_cases z : a = ca
      · exact z ▸ th3
      · exact ⟨o, kb3 a o z e, nf⟩, fun a o _ n' e => kb3 a o (fun z => n' (z ▸ hcm)) e, fun a o _ n' e => ⟨o.slots, kb3 a o (fun z => n' (z ▸ hcm)) e⟩⟩
    refine bl_shut (c := c.hide it) okh hca S3 hno hc3 (fun c2 q1 q2 q3 q4 q5 => hb i hin t c2 q1 q2 q3 q4 q5) fun h4 tk4 k4 S4 hc4 => ?_
    exact ⟨n + 1 - (i + 1), by omega, i + 1, h4, tk4, rfl, (kk2.trans k23).trans k4, S4, T.keep _ _ _ (T.keep _ _ _ I2 k23) k4, ⟨_, hc4⟩, hin, rfl⟩
  · obtain rfl : i = n := Nat.le_antisymm hin' (Nat.not_lt.mp hin)
    refine next_none (T.done h' tk' _ _ Ii fun h2 tk2 kb => ?_)
    exact wpAny_execs_nil (kq h2 tk2 (kk.but hn kb) (Si.unhideBut ok kb hfr (fun z => by obtain ⟨o, q⟩ := S.xlt _ z; rw [hn] at q; cases q) hH))
end
theorem lk_here' {β : Type} {x : Str} {a : β} {l : List (Str × β)} : List.lookup x ((x, a) :: l) = some a := by rw [List.lookup_cons, beq_self_eq_true]
theorem rfm {α β : Type} (l : List α) (d : α) (p : α → Bool) (f : α → β) : ((List.range l.length).filter (fun j => p (l.getD j d))).map (fun j => f (l.getD j d)) = (l.filter p).map f := by
  have h : (List.range l.length).map (fun j => l.getD j d) = l := by
    apply List.ext_getElem
    · simp
    · intro i h1 h2
      simp [List.getD_eq_getElem?_getD, List.getElem?_eq_getElem h2]
  rw [show l.filter p = ((List.range l.length).map (fun j => l.getD j d)).filter p by rw [h], List.filter_map, List.map_map]
  rfl
noncomputable def absI (n : Int) : Int := if n < 0 then -n else n
noncomputable def wsF (bs : Bits) (what : Str) : List Int := (bs.filter fun b => b.1 == what).map (·.2)
noncomputable def loF (ws : List Int) : Int := sumW (ws.filter fun n => decide (n < 0))
noncomputable def hiF (ws : List Int) : Int := sumW (ws.filter fun n => decide (0 < n))
noncomputable def stF (ws : List Int) : Int := minW (ws.map absI ++ [4096])
noncomputable def min2 (a : Int) : Int := if 2 < a then 2 else a
structure RangeOk (q : KR) (i : Ins) (bs : Bits) (what : Str) : Prop where
  a1 : checkF q (setI i what (loF (wsF bs what))) = true
  a2 : checkF q (setI i what (hiF (wsF bs what))) = true
  a3 : checkF q (setI i what (loF (wsF bs what) - min2 (stF (wsF bs what)))) = false
  a4 : checkF q (setI i what (hiF (wsF bs what) + min2 (stF (wsF bs what)))) = false
  a5 : stF (wsF bs what) = 2 → checkF q (setI i what (loF (wsF bs what) + 1)) = false
theorem gl_sum (P : Params) : nsIn (KK P) mainGlobals (Str.ofString "sum") = some none := by kernel_rfl
theorem gl_min (P : Params) : nsIn (KK P) mainGlobals (Str.ofString "min") = some none := by kernel_rfl
theorem gl_abs (P : Params) : nsIn (KK P) mainGlobals (Str.ofString "abs") = some none := by kernel_rfl
theorem gl_ref (P : Params) : nsIn (KK P) mainGlobals (Str.ofString "_law_refuses") = some (some (.ref 1141)) := by kernel_rfl
theorem kp_ref (P : Params) : keepIn (KK P) (.ref 1141) = true := by kernel_rfl
section
variable {c : Cx} {lev : Nat} {ρ : Loc}
theorem is_ints {x : Str} {p : Pos} {iter : Expr} {ns : List Int} (ok : c.Ok lev) (h : EvJ c ρ iter (.list (ns.map .int))) : IeS c ρ (.Name x p) iter ns.length (fun i => .int (valOf ns i)) := by
  have := is_list (target := .Name x p) ok h (fun a _ => .inl ⟨x, p, rfl⟩) (fun i => .int (valOf ns i)) (fun i a e => by
    rw [List.getElem?_map] at e
    obtain ⟨n, e1, rfl⟩ := Option.map_eq_some_iff.mp e
    unfold valOf
    rw [List.getD_eq_getElem?_getD, e1]
    rfl)
  rw [List.length_map] at this
  exact this
theorem is_bits {elts : List Expr} {n : Nat} {p : Pos} {iter : Expr} {bs : Bits} (ok : c.Ok lev) (h : EvJ c ρ iter (bitsAV bs)) : IeS c ρ (.Tuple elts n p) iter bs.length (fun i => bitAV (bs.getD i (sO "", 0))) := by
  have := is_list (target := .Tuple elts n p) ok h (fun a ha => .inr (by
    obtain ⟨b, _, rfl⟩ := List.mem_map.mp ha
    exact ⟨_, _, _, _, rfl, rfl⟩)) (fun i => bitAV (bs.getD i (sO "", 0))) (fun i a e => by
    rw [List.getElem?_map] at e
    obtain ⟨n, e1, rfl⟩ := Option.map_eq_some_iff.mp e
    rw [List.getD_eq_getElem?_getD, e1]
    rfl)
  rw [List.length_map] at this
  exact this
theorem ev_cellG {x : Str} {p : Pos} {s : Str} {t : Tok} {ca : Addr} (ok : c.Ok lev) (hcl : c.cells.lookup x = some ca) (hv : c.gd.H.IsCell ca (some (.str s t))) (hx : c.env.kindOf x = some .cell) (hd : (x == ("__debug__" : Str)) = false) : EvJ c ρ (.Name x p) (.str s) := fun h tk Q E S k =>
  wpAny_Name (wpAny_loadName_cell ok.kind hx hcl (hv.keeps S.keep) (k h tk _ .refl .str)) hd
end
section
theorem ev_wcomp {c : Cx} {lev : Nat} {ρ : Loc} {op : CmpOp} {p : Int → Bool} {ws : List Int} {iter : Expr} {x1 x2 x3 x4 cp pp : Pos} {kk : Nat} {cells : List (Str × Addr)} (ok : c.Ok lev) (hs : c.scope = fnScope (astAt 44)) (hc : c.cells = cells) (hi : EvJ c ρ iter (.list (ws.map .int))) (hz : ws.length ≤ 1000) (ho : ∀ c n, CoJ c (compareOp op) (.int n) (.int 0) (.bool (p n))) {scope : Scope} (hsc : scope = { kind := .function, names := [(Str.ofString ".0", .local), (Str.ofString "worth", .local)], isGenerator := false, isCoroutine := false, more := [] }) (hm : behindInMarks op (.Constant (.int 0) kk x3) = false) (hfs : ∀ x, foldedSetIterable iter c.env x = pure x) :
    EvJ c ρ (.ListComp (.Name (Str.ofString "worth") x1) [⟨.Name (Str.ofString "worth") x2, iter, [.Compare (.Name (Str.ofString "worth") x4) [op] [.Constant (.int 0) kk x3] cp], 0⟩] scope pp) (.list ((ws.filter p).map .int)) := by
  subst hsc
  refine' ev_comp (n := ws.length) (item := fun i => .int (valOf ws i)) (kp := fun i => p (valOf ws i)) (el := fun i => .int (valOf ws i)) (σ := fun i => [(Str.ofString "worth", .int (valOf ws i))]) (cl := []) ok (clos_env hc (by kernel_rfl)) (by decide +kernel) rfl (by decide +kernel) (is_ints ok hi) hfs hz ?ht ?hf ?he ?ho
  case ht => exact fun C i _ => ct_name rfl (kdc hs (by kernel_rfl))
  case hf => exact fun X C i _ => cf_one (ce_cmp (ce_name lk_here rfl (kdc hs (by kernel_rfl)) (by kernel_rfl)) ce_int (ho c _) hm)
  case he => exact fun X C i _ _ => ce_name lk_here rfl (kdc hs (by kernel_rfl)) (by kernel_rfl)
  case ho => exact rfm ws 0 p AV.int
theorem rr_turn {c : Cx} {lev} (ok : c.Ok (lev + 10)) (hs : c.scope = fnScope (astAt 44)) (r : SR) (hr : r ∈ SH) (q : KR) (hq : q ∈ KD) (hk : q.kind = r.kind) (i : Ins) (hi : i.nm = r.name) (bs : Bits) (hz : bs.length ≤ 900) (what : Str) (hw : what ∈ five) (R : RangeOk q i bs what) {ca : Addr} {t : Tok}
    (hc : c.cells = [(sO "what", ca)]) (hcell : c.gd.H.IsCell ca (some (.str what t))) :
    BlJ c [(sO "bits", bitsAV bs), (sO "made", i.av)] (forBody (nthSt (fnBody (astAt 44)) 0)) (.nxt [(sO "bits", bitsAV bs), (sO "made", i.av)]) := by
  have hwl : (wsF bs what).length ≤ 900 := by
    unfold wsF; rw [List.length_map]; exact Nat.le_trans (List.length_filter_le _ _) hz
  have hcl : c.cells.lookup (Str.ofString "what") = some ca := by rw [hc]; exact lk_here'
  have eW : ∀ {ρ p}, EvJ c ρ (.Name (Str.ofString "what") p) (.str what) := fun {ρ p} => ev_cellG ok hcl hcell (kd hs (by kernel_rfl)) (by kernel_rfl)
  have hRef := fun v : Int => con_ca (c := c) (lev := lev + 9) ok (con_ref c.gd lev r hr q hq hk i hi what (lkF_any hw i) v)
  obtain ⟨a1, a2, a3, a4, a5⟩ := R
  refine' bl_cons (sm_comp (y := sO "worths") (n := bs.length) (item := fun j => bitAV (bs.getD j (sO "", 0))) (kp := fun j => (bs.getD j (sO "", 0)).1 == what) (el := fun j => .int (bs.getD j (sO "", 0)).2) (σ := fun j => [(sO "worth", .int (bs.getD j (sO "", 0)).2), (sO "name", .str (bs.getD j (sO "", 0)).1)]) (cl := [(sO "what", ca)]) (out := (wsF bs what).map .int) ok (sw2_scope hs (by kernel_rfl)) (kd hs (by kernel_rfl)) (clos_env hc (by kernel_rfl)) (by decide +kernel) (by kernel_rfl) (by decide +kernel) (is_bits ok ?it) (fun _ => rfl) (by omega) ?ht ?hf ?he ?ho) ?d1
  case it => walk_at "ev"
  case ht => exact fun C j _ => ct_pair ok (by kernel_rfl) (kdc hs (by kernel_rfl)) (kdc hs (by kernel_rfl))
  case hf => exact fun X C j _ => cf_one (ce_cmp (ce_name (lk_next (by kernel_rfl) lk_here) (by kernel_rfl) (kdc hs (by kernel_rfl)) (by kernel_rfl)) (ce_cell (v := .str what t) (ca := ca) (by kernel_rfl) hcell (fun V => .str) (by kernel_rfl) (kdc hs (by kernel_rfl)) (by kernel_rfl)) co_eqs rfl)
  case he => exact fun X C j _ _ => ce_name lk_here (by kernel_rfl) (kdc hs (by kernel_rfl)) (by kernel_rfl)
  case ho =>
    unfold wsF
    rw [List.map_map]
    exact rfm bs (sO "", 0) (fun b => b.1 == what) (fun b => AV.int b.2)
  case d1 =>
  generalize wsF bs what = ws at *
  refine' bl_cons (sm_tupR (as := [.int (loF ws), .int (hiF ws)]) (xs := [sO "least", sO "greatest"]) (ρ' := [(sO "least", .int (loF ws)), (sO "greatest", .int (hiF ws)), (sO "worths", .list (ws.map .int)), (sO "bits", bitsAV bs), (sO "made", i.av)]) ok ?v2 (kds hs (by decide +kernel)) rfl (sw_scope hs (by kernel_rfl)) rfl rfl rfl) ?d2
  case v2 =>
    refine' ev_tuple ok (evs_cons ok ?s1 (evs_cons ok ?s2 evs_nil rfl) rfl) (by simp)
    case s1 =>
      refine' ev_callB ok (ev_builtin ok (gl_sum _) (by decide +kernel) ok.kind (kd hs (by kernel_rfl)) (by decide +kernel) (by kernel_rfl)) (evs_cons ok ?w evs_nil rfl) (ca_sum ok) rfl rfl rfl
      case w => exact ev_wcomp ok hs hc (by walk_at "ev") (by omega) (fun _ _ => co_lt) rfl rfl (fun _ => rfl)
    case s2 =>
      refine' ev_callB ok (ev_builtin ok (gl_sum _) (by decide +kernel) ok.kind (kd hs (by kernel_rfl)) (by decide +kernel) (by kernel_rfl)) (evs_cons ok ?w evs_nil rfl) (ca_sum ok) rfl rfl rfl
      case w => exact ev_wcomp ok hs hc (by walk_at "ev") (by omega) (fun _ _ => co_gt) rfl rfl (fun _ => rfl)
  case d2 =>
  refine' bl_cons (sm_assign (a := .int (stF ws)) ok ?v3 (kd hs (by kernel_rfl)) rfl rfl) ?d3
  case v3 =>
    refine' ev_callB ok (ev_builtin ok (gl_min _) (by decide +kernel) ok.kind (kd hs (by kernel_rfl)) (by decide +kernel) (by kernel_rfl)) (evs_cons ok (ev_eq (ev_bin ok ?w1 ?w2 (op_addl (as := (ws.map absI).map .int) (bs := [.int 4096]) ok (by simp; omega))) ?w3) evs_nil rfl) (ca_min1 (ns := ws.map absI ++ [4096]) ok (by simp)) rfl rfl rfl
    case w1 =>
      refine' ev_comp (n := ws.length) (item := fun j => .int (valOf ws j)) (kp := fun _ => true) (el := fun j => .int (absI (valOf ws j))) (σ := fun j => [(Str.ofString "worth", .int (valOf ws j))]) (cl := []) ok (clos_env hc (by kernel_rfl)) (by decide +kernel) (by kernel_rfl) (by decide +kernel) (is_ints ok ?it) (fun _ => rfl) (by omega) ?ht (fun _ _ _ _ => cf_nil) ?he ?ho
      case it => walk_at "ev"
      case ht => exact fun C j _ => ct_name (by kernel_rfl) (kdc hs (by kernel_rfl))
      case he => exact fun X C j _ _ => ce_abs ok (ce_name lk_here (by kernel_rfl) (kdc hs (by kernel_rfl)) (by kernel_rfl)) (by kernel_rfl) (kdc hs (by kernel_rfl)) (gl_abs _) rfl rfl
      case ho =>
        rw [List.map_map]
        exact (rfm ws 0 (fun _ => true) (fun n => AV.int (absI n))).trans (by rw [List.filter_eq_self.mpr (fun _ _ => rfl)]; rfl)
    case w2 => exact ev_list ok (evs_cons ok (ev_eq (ev_bin ok ev_int ev_int (op_pow (by decide) (by decide))) rfl) evs_nil rfl) (by simp)
    case w3 => rw [List.map_append]; rfl
  case d3 =>
  have mn : ∀ {ρ : Loc} {p1 p2 p3 p4 : Pos} {kk : Nat}, ρ.lookup (Str.ofString "step") = some (.int (stF ws)) → EvJ c ρ (.Call (.Name (Str.ofString "min") p1) [.Name (Str.ofString "step") p2, .Constant (.int 2) kk p3] [] p4) (.int (min2 (stF ws))) := fun {ρ p1 p2 p3 p4 kk} hl =>
    ev_callB ok (ev_builtin ok (gl_min _) (by decide +kernel) ok.kind (kd hs (by kernel_rfl)) (by decide +kernel) (by kernel_rfl)) (evs_cons ok (ev_lk ok hs hl (by kernel_rfl) (by kernel_rfl)) (evs_cons ok ev_int evs_nil rfl) rfl) (ca_min2 ok) rfl rfl rfl
  have eRef : ∀ {ρ : Loc} {e : Expr} {v : Int} {p1 p2 p3 p4 : Pos}, ρ.lookup (Str.ofString "made") = some i.av → EvJ c ρ e (.int v) → starEach [e] c.env = (false, eval e c.env) :: starEach [] c.env →
      (eval (.Call (.Name (Str.ofString "_law_refuses") p1) [.Name (Str.ofString "made") p2, .Name (Str.ofString "what") p3, e] [] p4) c.env = (do callWith p4 (← eval (.Name (Str.ofString "_law_refuses") p1) c.env) [] (backTo p4 (starEach [.Name (Str.ofString "made") p2, .Name (Str.ofString "what") p3, e] c.env)) (backToKw p4 (keywordEach [] c.env)))) →
      ((backTo p4 (starEach [.Name (Str.ofString "what") p3, e] c.env)).any (·.1) = false) →
      EvJ c ρ (.Call (.Name (Str.ofString "_law_refuses") p1) [.Name (Str.ofString "made") p2, .Name (Str.ofString "what") p3, e] [] p4) (.bool (!checkF q (setI i what v))) := fun {ρ e v p1 p2 p3 p4} hl he hse hev hp =>
    ev_callK ok (ev_global ok (gl_ref _) ok.kind (kd hs (by kernel_rfl)) (by kernel_rfl)) (evs_cons ok (ev_lk ok hs hl (by kernel_rfl) (by kernel_rfl)) (evs_cons ok eW (evs_cons ok he evs_nil hse) rfl) rfl) (hRef v) (kp_ref _) hev rfl hp
  refine' bl_if ok (b := (!checkF q (setI i what (loF ws))) || ((!checkF q (setI i what (hiF ws))) || false)) ?t4 ?n4 ?x4 ?y4
  case t4 =>
    refine' ts_boolop (ta_or ok (ts_bool (eRef ?m1 ?m2 rfl rfl rfl) rfl) (fun _ => ta_or ok (ts_bool (eRef ?m3 ?m4 rfl rfl rfl) rfl) (fun _ => ta_or_nil)))
    case m1 => walk_at "lk"
    case m2 => walk_at "ev"
    case m3 => walk_at "lk"
    case m4 => walk_at "ev"
  case n4 => rw [a1, a2]; exact fun h => nomatch h
  case x4 => rw [a1, a2]; exact fun h => nomatch h
  case y4 =>
  intro _
  refine' bl_if ok (b := (!(!checkF q (setI i what (loF ws - min2 (stF ws))))) || ((!(!checkF q (setI i what (hiF ws + min2 (stF ws))))) || false)) ?t5 ?n5 ?x5 ?y5
  case t5 =>
    refine' ts_boolop (ta_or ok (ts_not (ts_bool (eRef ?m1 (ev_bin ok ?m2 (mn ?m5) op_sub) rfl rfl rfl) rfl)) (fun _ => ta_or ok (ts_not (ts_bool (eRef ?m3 (ev_bin ok ?m4 (mn ?m6) op_add) rfl rfl rfl) rfl)) (fun _ => ta_or_nil)))
    case m1 => walk_at "lk"
    case m2 => walk_at "ev"
    case m5 => walk_at "lk"
    case m3 => walk_at "lk"
    case m4 => walk_at "ev"
    case m6 => walk_at "lk"
  case n5 => rw [a3, a4]; exact fun h => nomatch h
  case x5 => rw [a3, a4]; exact fun h => nomatch h
  case y5 =>
  intro _
  refine' bl_if ok (b := (stF ws == 2) && ((!(!checkF q (setI i what (loF ws + 1)))) && true)) ?t6 ?n6 ?x6 ?y6
  case t6 =>
    refine' ts_boolop (ta_and ok ?m0 (fun _ => ta_and ok (ts_not (ts_bool (eRef ?m1 ?m2 rfl rfl rfl) rfl)) (fun _ => ta_and_nil)))
    case m0 => walk_at "ts"
    case m1 => walk_at "lk"
    case m2 => walk_at "ev"
  case n6 =>
    intro h
    rw [Bool.and_eq_true] at h
    rw [a5 (beq_iff_eq.mp h.1)] at h
    exact absurd h.2 (by decide)
  case x6 =>
    intro h
    rw [Bool.and_eq_true] at h
    rw [a5 (beq_iff_eq.mp h.1)] at h
    exact absurd h.2 (by decide)
  case y6 =>
  intro _
  refine bl_weak bl_nil ?_
  intro x a e
  have := lookup_mem e
  simp only [List.mem_cons, Prod.mk.injEq, List.not_mem_nil, or_false] at this
  rcases this with ⟨rfl, rfl⟩ | ⟨rfl, rfl⟩
  · walk_at "lk"
  · walk_at "lk"
end
theorem five_at : ∀ j, j < 5 → five.getD j (sO "") ∈ five := by decide +kernel
theorem con_rr (gd : Gd) (lev : Nat) (r : SR) (hr : r ∈ SH) (q : KR) (hq : q ∈ KD) (hk : q.kind = r.kind) (i : Ins) (hi : i.nm = r.name) (bs : Bits) (hz : bs.length ≤ 900) (R : ∀ what ∈ five, RangeOk q i bs what) : Con gd (lev + 11) (.ref 1146) [i.av, bitsAV bs] (.ok (.bool true)) := fun k h tk vs Rr eg ok fo hH hX rs kR => by
  subst eg
  replace rs := rs.i; obtain ⟨_, _, rfl, r0, rs⟩ := rs
  replace rs := rs.i; obtain ⟨_, _, rfl, r1, rs⟩ := rs
  obtain rfl := rs.i
  rename_i v0 v1
  have hgone : ∀ a, h.get? a = none → k.gd.H.get? a = none := fun a e => by
    cases z : k.gd.H.get? a with
    | none => rfl
    | some o => rw [hH a o z] at e; cases e
  refine enter_cells (lev := lev + 10) (binds := [(sO "made", v0), (sO "bits", v1)]) (show (KK k.gd.w.params).lookup 1146 = some (o1146 k.gd.w.params) by kernel_rfl) (by kernel_rfl) (by kernel_rfl) (fun x hx => ?_) ok fo hH hX
    (fun h₁ tk₁ m cm hm hcm okc mk hcl hk₁ hlt => ?_) (by kernel_rfl) (by kernel_rfl) (by kernel_rfl)
  · simp only [List.mem_cons, List.not_mem_nil, or_false] at hx
    rcases hx with rfl | rfl
    · exact .inl (by kernel_rfl)
    · exact .inl (by kernel_rfl)
  · have hce : cellsFrom (h.objs.size + 1) (fnScope (astAt 44)).names [] = [(sO "what", h.objs.size + 1)] := by kernel_rfl
    have S0 := mk [(sO "bits", bitsAV bs), (sO "made", i.av)] (fun x a e => by
      have := lookup_mem e
      simp only [List.mem_cons, Prod.mk.injEq, List.not_mem_nil, or_false] at this
      rcases this with ⟨rfl, rfl⟩ | ⟨rfl, rfl⟩
      · exact ⟨rfl, v1, by rw [hm]; kernel_rfl, r1⟩
      · exact ⟨rfl, v0, by rw [hm]; kernel_rfl, r0⟩)
    obtain ⟨cw1, cw2, cw3⟩ := hcl (sO "what") (h.objs.size + 1) (by rw [hce]; kernel_rfl)
    have hL : ∀ a o, h.get? a = some o → a ≠ h.objs.size := fun a o e => Nat.ne_of_lt (Heap.lt_size e)
    generalize hcc : k.cxC (sO "_law_range_right") (fnScope (astAt 44)) h.objs.size 1146 (.ref 1145) (cellsFrom (h.objs.size + 1) (fnScope (astAt 44)).names []) = c0 at okc S0 ⊢
    have hs : c0.scope = fnScope (astAt 44) := by rw [← hcc]; rfl
    have hXX : c0.X = h.objs.size :: k.X := by rw [← hcc]; rfl
    have hcells : c0.cells = [(sO "what", h.objs.size + 1)] := by rw [← hce, ← hcc]; rfl
    have hfr : c0.fr = h.objs.size :: frs k.l := by rw [← hcc]; rfl
    have how : c0.own = [] := by rw [← hcc]; rfl
    have hL0 : c0.L = h.objs.size := by rw [← hcc]; rfl
    have hgd : c0.gd = k.gd := by rw [← hcc]; rfl
    rw [show k.sh h₁ tk₁ = c0.sh h₁ tk₁ by rw [← hcc]; rfl]
    have hg : MW k.gd.w = c0.M := by rw [← hcc]; rfl
    rw [hg]
    have sh : ∀ h tk, k.sh h tk = c0.sh h tk := fun _ _ => by rw [← hcc]; rfl
    clear hcc mk hcl hce
    obtain ⟨ca, hca⟩ : ∃ ca, ca = h.objs.size + 1 := ⟨_, rfl⟩
    rw [← hca] at cw1 cw2 cw3 hcells
    have hHca : c0.gd.H.get? ca = none := by rw [hgd]; exact hgone ca cw3
    have hXca : ca ∉ c0.X := by rw [hXX]; exact cw2
    obtain ⟨oC, eC, dC⟩ := id cw1
    have thC : There h₁ ca := ⟨oC, eC, fun vs z => by rw [dC] at z; cases z⟩
    have okw : (c0.ownify ca).Ok (lev + 10) := okc.ownify hHca hXca
    have S : St (c0.ownify ca) [(sO "bits", bitsAV bs), (sO "made", i.av)] h₁ := by
      refine ⟨?_, S0.keep, S0.frs, fun a ha => ?_, fun a ha => ?_, fun x a oc e => ?_⟩
      · obtain ⟨m, n, rr⟩ := S0.ns
        refine ⟨m, n, fun x a e => ?_⟩
        obtain ⟨v, q1, q2⟩ := rr x a e
        refine ⟨v, q1, q2.nc fun a o e nc => ?_⟩
        have aX := vw_not e
        unfold vw
        rw [if_neg (show ¬ a ∈ (c0.ownify ca).X from fun z => (List.mem_cons.mp z).elim (fun z => ?_) aX)]
        · exact vw_ge e
        · have := vw_ge e
          rw [z, eC] at this
          exact nc _ (Option.some.inj this ▸ dC)
      · rcases List.mem_cons.mp ha with rfl | ha
        · exact ⟨oC, eC⟩
        · exact S0.xlt a ha
      · rw [show (c0.ownify ca).own = ca :: c0.own from rfl, how] at ha
        rw [List.mem_singleton.mp ha]
        exact thC
      · have := lookup_mem e
        simp only [List.mem_cons, Prod.mk.injEq, List.not_mem_nil, or_false] at this
        rcases this with ⟨_, z⟩ | ⟨_, z⟩ <;> cases z
    have hown : (c0.ownify ca).own = [ca] := by show ca :: c0.own = [ca]; rw [how]
    have hs' : (c0.ownify ca).scope = fnScope (astAt 44) := hs
    have hcells' : (c0.ownify ca).cells = [(sO "what", ca)] := hcells
    have key : wpAny (c0.ownify ca).M (c0.ownify ca).B (execs (fnBody (astAt 44)) (c0.ownify ca).env) (fun f s' => Rr (.ok (.ret (match f with | .ret v => v | _ => .none))) s')
        (fun e s' => wpAny c0.M c0.B (leaving c0.env e) (fun _ s'' => Rr (.error e) s'') (fun e' s'' => Rr (.error e') s'') s') ((c0.ownify ca).sh h₁ tk₁) := by
      refine wpAny_execs_cons (for_cell (c := c0.ownify ca) (ca := ca) (n := 5) (ws := fun j => five.getD j (sO "")) okw hown (by rw [hcells']; exact lk_here') (kd hs' (by kernel_rfl)) rfl S ⟨_, cw1⟩ (fun _ => rfl) (IeS.ie (is_list (as := [.str (sO "rd"), .str (sO "rs1"), .str (sO "rs2"), .str (sO "imm"), .str (sO "csr")]) okw (ev_list okw (evs_cons okw ev_str (evs_cons okw ev_str (evs_cons okw ev_str (evs_cons okw ev_str (evs_cons okw ev_str evs_nil rfl) rfl) rfl) rfl) rfl) (by simp)) (fun a _ => .inl ⟨_, _, rfl⟩) _ ?it))
        (fun j hj t c2 ok2 q1 q2 q3 q4 => ?_) fun h' tk' kk S' => ?_)
      · intro j a e
        have hj : j < 5 := by
          have := (List.getElem?_eq_some_iff.mp e).1
          simpa using this
        have : j = 0 ∨ j = 1 ∨ j = 2 ∨ j = 3 ∨ j = 4 := by omega
        rcases this with rfl | rfl | rfl | rfl | rfl <;> (cases e; rfl)
      · exact rr_turn ok2 (q1.trans hs') r hr q hq hk i hi bs hz _ (five_at j hj) (R _ (five_at j hj)) (q3.trans hcells') q4
      · refine (bl_ret (sm_return ev_bool) : BlJ (c0.ownify ca) _ _ (.ret (.bool true))) h' tk' _ _ S' fun h2 tk2 v k2 rv _ => ?_
        have kall := kk.trans k2
        have nf : ∀ a o, h.get? a = some o → a ∉ (c0.ownify ca).own := fun a o e z => by
          rw [hown] at z
          rw [List.mem_singleton.mp z, cw3] at e
          cases e
        have rv' : v = .bool true := by cases rv; rfl
        subst rv'
        show Rr (.ok (.ret (.bool true))) (c0.sh h2 tk2)
        rw [← sh]
        refine kR h2 tk2 _ ⟨(Live.of_keeps hk₁).trans kall.1, fun a o n e => kall.2.1 a o (fun z => ?_) (nf a o e) (hk₁ a o e), fun a o e => kall.2.2 a o (fun z => ?_) (nf a o e) (hk₁ a o e)⟩ .bool
        · rw [show (c0.ownify ca).fr = c0.fr from rfl, hfr] at z
          exact (List.mem_cons.mp z).elim (hL a o e) n
        · rw [show (c0.ownify ca).L = c0.L from rfl, hL0] at z
          exact hL a o e z
    exact key
noncomputable abbrev namesAV : List AV := SH.map fun r : SR => AV.str r.name
noncomputable def d0 : SR := ⟨0, sO "", sO "", 0, 0, 0⟩
noncomputable def refsIs : List Value → List Addr → Bool | [], [] => true | .ref x :: vs, a :: as => x == a && refsIs vs as | _, _ => false
noncomputable def lstIs (K : Frag) (a : Addr) (as : List Addr) : Bool := match K.lookup a with | some ⟨.type "list", _, .seq vs _, _⟩ => refsIs vs.toList as | _ => false
theorem refsIs_rep {V : View} : ∀ {vs : List Value} {as : List Addr}, refsIs vs as = true → Reps V vs (as.map fun a => .glob (.ref a))
  | [], [], _ => .nil
  | v :: vs, a :: as, h => by
    cases v <;> simp only [refsIs, Bool.and_eq_true, Bool.false_eq_true] at h
    rw [beq_iff_eq.mp h.1]
    exact .cons .glob (refsIs_rep h.2)
  | [], _ :: _, h => by simp [refsIs] at h
  | v :: _, [], h => by cases v <;> simp [refsIs] at h
theorem shapes_is (P : Params) : lstIs (KK P) 160 (SH.map (·.addr)) = true := by kernel_rfl
theorem gl_names (P : Params) : nsIn (KK P) mainGlobals (Str.ofString "names") = some (some (.ref 1017)) := by kernel_rfl
section
variable {c : Cx} {lev : Nat} {ρ : Loc}
theorem ev_lstK {e : Expr} {a : Addr} {as : List Addr} (ok : c.Ok lev) (h1 : EvJ c ρ e (.glob (.ref a))) (h : lstIs (KK c.gd.w.params) a as = true) : EvJ c ρ e (.list (as.map fun a => .glob (.ref a))) := fun hp tk Q E S k =>
  h1 hp tk _ _ S fun h' tk' v k1 r1 => by
    obtain rfl := r1.i
    unfold lstIs at h
    split at h
    · rename_i dd vs n sl e1
      have hx := ok.gr.kx _ _ e1
      refine k h' tk' _ k1 (.list (o := ⟨.type "list", dd, .seq vs n, sl⟩) (vs := vs.toList) (n := n) ?_ rfl (by simp) (refsIs_rep h))
      unfold vw
      rw [if_neg (ok.hX _ _ hx)]
      exact ((S.kp ok k1).gr ok).kx _ _ e1
    · cases h
theorem is_shapes {x : Str} {p : Pos} {iter : Expr} (ok : c.Ok lev) (h : EvJ c ρ iter (.list ((SH.map (·.addr)).map fun a => .glob (.ref a)))) : IeS c ρ (.Name x p) iter SH.length (fun j => .glob (srV (SH.getD j d0))) := by
  have := is_list (target := .Name x p) ok h (fun a _ => .inl ⟨_, _, rfl⟩) (fun j => .glob (srV (SH.getD j d0))) (fun j a e => by
    rw [List.map_map, List.getElem?_map] at e
    obtain ⟨n, e1, rfl⟩ := Option.map_eq_some_iff.mp e
    rw [List.getD_eq_getElem?_getD, e1]
    rfl)
  rw [List.length_map, List.length_map] at this
  exact this
end
section
theorem names_body {c : Cx} {lev} (ok : c.Ok lev) (hs : c.scope = fnScope (astAt 24)) : BlJ c [] (fnBody (astAt 24)) (.ret (.list namesAV)) := by
  refine' bl_ret (sm_return (ev_comp (n := SH.length) (item := fun j => .glob (srV (SH.getD j d0))) (kp := fun _ => true) (el := fun j => .str (SH.getD j d0).name) (σ := fun j => [(sO "shape", .glob (srV (SH.getD j d0)))]) (cl := []) ok (clos_env (cells := c.cells) rfl (by kernel_rfl)) (by decide +kernel) (by kernel_rfl) (by decide +kernel) ?it (fun _ => rfl) (by decide +kernel) ?ht (fun _ _ _ _ => cf_nil) ?he ?ho))
  case it =>
    exact is_shapes ok (ev_lstK ok (kn_shapes ok hs (by kernel_rfl) rfl) (shapes_is _))
  case ht => exact fun C j _ => ct_name (by kernel_rfl) (kdc hs (by kernel_rfl))
  case he =>
    intro X C j hj _
    have hm : SH.getD j d0 ∈ SH := by
      rw [List.getD_eq_getElem?_getD, List.getElem?_eq_getElem hj]
      exact List.getElem_mem hj
    exact ce_attrS ok (ce_name lk_here (by kernel_rfl) (kdc hs (by kernel_rfl)) (by kernel_rfl)) (sh_split (List.all_eq_true.mp (SH_ok c.gd.w.params) _ hm)).1 rfl
  case ho => exact (rfm SH d0 (fun _ => true) (fun r => AV.str r.name)).trans (by rw [List.filter_eq_self.mpr (fun _ _ => rfl)])
end
theorem con_names (gd : Gd) (lev : Nat) : Con gd (lev + 1) (.ref 1017) [] (.ok (.list namesAV)) :=
  con_fn (lev := lev) (as := []) (out := .ret (.list namesAV)) [] (show (KK gd.w.params).lookup 1017 = some (o1017 gd.w.params) by kernel_rfl) (by kernel_rfl)
    (fun s vs hl _ => by obtain rfl := List.length_eq_zero_iff.mp hl; exact .of_eq (by kernel_rfl)) (by decide +kernel)
    (fun c hg ok hs hn' => names_body ok hs) (by kernel_rfl) (by kernel_rfl) (by kernel_rfl) (by decide +kernel)
theorem ints_are {V : View} : ∀ {vs : List Value} {ns : List Int}, Reps V vs (ns.map .int) → IntsAre vs ns
  | [], [], _ => .nil
  | v :: vs, n :: ns, .cons r rs => by
    obtain ⟨_, rfl⟩ := r.i
    exact .cons _ _ (ints_are rs)
theorem are_ints {V : View} : ∀ {vs : List Value} {ns : List Int}, IntsAre vs ns → Reps V vs (ns.map .int)
  | _, _, .nil => .nil
  | _, _, .cons _ _ h => .cons .int (are_ints h)
noncomputable def seedF (s x : Int) : Int := (s * 48271 + x * 69621 + 7).fmod 2147483629
noncomputable def greatF (g x : Int) : Int := if (g == 0) && decide (10 ^ 18 ≤ absI x) then absI x else g
noncomputable def bxF (ns : List Int) : Nat → Int × Int
  | 0 => (29, 0)
  | j + 1 => (seedF (bxF ns j).1 (valOf ns j), greatF (bxF ns j).2 (valOf ns j))
noncomputable def boxF (ns : List Int) : BoxS := ⟨(bxF (ns.take 24) (ns.take 24).length).2, (bxF (ns.take 24) (ns.take 24).length).1, 0⟩
theorem bx_ok (ns : List Int) : ∀ j, 0 ≤ (bxF ns j).1 ∧ (bxF ns j).1 < 2147483629
  | 0 => by show (0 : Int) ≤ 29 ∧ (29 : Int) < _; decide
  | j + 1 => fmod_range (by decide)
theorem boxF_ok (ns : List Int) : BoxOk (boxF ns) 0 := ⟨(bx_ok _ _).1, by have := (bx_ok (ns.take 24) (ns.take 24).length).2; show (bxF _ _).1 < 2 ^ 31; omega, Int.le_refl _, Int.le_refl _⟩
section
variable {c : Cx} {lev : Nat} {ρ : Loc}
theorem ca_abs {a : Int} : CaJ c (.builtin "abs") [.int a] (.int (absI a)) := fun ρ h tk Q E vs S rs k => by
  replace rs := rs.i; obtain ⟨_, _, rfl, r, rs⟩ := rs
  obtain rfl := rs.i
  obtain ⟨_, rfl⟩ := r.i
  exact call_abs_int (s := c.sh h tk) fun u tk2 => k h tk2 _ .refl .int
theorem ev_take {e : Expr} {ns : List Int} {b : Int} {kk : Nat} {p1 p2 p3 : Pos} (ok : c.Ok lev) (h1 : EvJ c ρ e (.list (ns.map .int))) (hb : 0 ≤ b) (hz : ns.length ≤ 1000) (ht : ∀ o r, letTemporaryGo e o r = pure ()) : EvJ c ρ (.Subscript e (.Slice none (some (.Constant (.int b) kk p1)) none p2) p3) (.list ((ns.take b.toNat).map .int)) := fun h tk Q E S k => by
  refine wpAny_Subscript_Slice (T := "list") slot_list_getitem.lookup (h1 h tk _ _ S fun h' tk' v k1 r1 => ?_) ht
  have S1 := S.kp ok k1
  obtain ⟨l, vs, rfl, hl, rs⟩ := isList_of r1
  refine wpAny_Slice (wpAny_pure ((ev_int (c := c) (ρ := ρ) (k := kk) (p := p1)) h' tk' _ _ S1 fun h2 tk2 u k2 r2 => wpAny_pure ?_))
  obtain ⟨_, rfl⟩ := r2.i
  rename_i t
  have S2 := S1.kp ok k2
  have lX : l ∉ c.X := by cases r1 with | list e => exact vw_not e
  have hl2 : h2.IsList l vs.toArray := hl.at fun o e => k2.2.1 l o (fun z => lX (ok.frX l z)) e
  have hl3 : (h2.push { cls := .type "slice", data := .fields #[.none, .int b t, .none] }).IsList l vs.toArray := hl2.push _
  refine ⟨Heap.IsList.typeIs (s := c.sh _ tk2) hl3, wpAny_getItem_list_slice (s := c.sh (h2.push { cls := .type "slice", data := .fields #[.none, .int b t, .none] }) tk2) hl3 (Heap.IsSliceOf.new ..) .none (.int b t) .none (by simp) ?_ (by rw [List.size_toArray, rs.len, List.length_map, sizeLine_eq]; omega)⟩
  have S3 := S2.kp ok (Kp.push { cls := .type "slice", data := .fields #[.none, .int b t, .none] })
  have kp : ∀ {h : Heap} o, Kp c.fr h (h.push o) := fun o => Kp.push _
  have hi := kmk_upto (y := b) (ints_are rs) hb
  refine k _ _ _ (((k1.trans k2).trans (kp _)).trans (kp _)) (.list (n := 0) (vs := (slicePick vs.toArray none (some b) none).toList) (o := { cls := .type "list", data := .seq (slicePick vs.toArray none (some b) none) }) ?_ rfl (by simp) (are_ints hi))
  exact vw_push S3.lt _ rfl
end
section
theorem box_loop {c : Cx} {lev} (ok : c.Ok lev) (hs : c.scope = fnScope (astAt 35)) (s g x : Int) {a : AV} :
    BlJ c ((sO "cell", .int x) :: [(sO "great", .int g), (sO "seed", .int s), (sO "script", a)]) (forBody (nthSt (fnBody (astAt 35)) 1)) (.nxt [(sO "great", .int (greatF g x)), (sO "seed", .int (seedF s x)), (sO "script", a)]) := by
  have ab : ∀ {ρ : Loc} {p1 p2 p3 : Pos}, ρ.lookup (Str.ofString "cell") = some (.int x) → EvJ c ρ (.Call (.Name (Str.ofString "abs") p1) [.Name (Str.ofString "cell") p2] [] p3) (.int (absI x)) := fun {ρ p1 p2 p3} hl =>
    ev_callB ok (ev_builtin ok (gl_abs _) (by decide +kernel) ok.kind (kd hs (by kernel_rfl)) (by decide +kernel) (by kernel_rfl)) (evs_cons ok (ev_lk ok hs hl (by kernel_rfl) (by kernel_rfl)) evs_nil rfl) ca_abs rfl rfl rfl
  have m1 : ∀ x : Int, IntMulOk x 48271 := fun x => .of_right (intBits_le_64 (by decide) (by decide))
  have m2 : ∀ x : Int, IntMulOk x 69621 := fun x => .of_right (intBits_le_64 (by decide) (by decide))
  refine' bl_cons (sm_assign (a := .int (seedF s x)) ok ?v1 (kd hs (by kernel_rfl)) rfl rfl) ?d1
  case v1 =>
    refine' ev_eq (ev_bin ok (ev_bin ok (ev_bin ok (ev_bin ok ?n1 ev_int (op_mul (m1 _))) (ev_bin ok ?n2 ev_int (op_mul (m2 _))) op_add) ev_int op_add) ev_int (op_mod (by decide))) rfl
    case n1 => walk_at "ev"
    case n2 => walk_at "ev"
  case d1 =>
  refine' bl_one (sm_if ok (b := (g == 0) && (decide (10 ^ 18 ≤ absI x) && true)) ?t ?x ?y)
  case t =>
    refine' ts_boolop (ta_and ok ?t1 (fun _ => ta_and ok (ts_cmp ok (ab ?l) (ev_eq (ev_bin ok ev_int ev_int (op_pow (by decide) (by decide))) rfl) op_ge rfl) (fun _ => ta_and_nil)))
    case t1 => walk_at "ts"
    case l => walk_at "lk"
  case x =>
    intro hc
    rw [Bool.and_true] at hc
    rw [show greatF g x = absI x by unfold greatF; rw [if_pos hc]]
    refine' bl_weak (bl_one (sm_assign (x := sO "great") (a := .int (absI x)) ok (ab ?l) (kd hs (by kernel_rfl)) rfl rfl)) ?w
    case l => walk_at "lk"
    case w =>
      intro y v e
      have := lookup_mem e
      simp only [List.mem_cons, Prod.mk.injEq, List.not_mem_nil, or_false] at this
      rcases this with ⟨rfl, rfl⟩ | ⟨rfl, rfl⟩ | ⟨rfl, rfl⟩
      · walk_at "lk"
      · walk_at "lk"
      · walk_at "lk"
  case y =>
    intro hc
    rw [Bool.and_true] at hc
    rw [show greatF g x = g by unfold greatF; rw [if_neg (by rw [hc]; decide)]]
    refine bl_weak bl_nil ?_
    intro y v e
    have := lookup_mem e
    simp only [List.mem_cons, Prod.mk.injEq, List.not_mem_nil, or_false] at this
    rcases this with ⟨rfl, rfl⟩ | ⟨rfl, rfl⟩ | ⟨rfl, rfl⟩
    · walk_at "lk"
    · walk_at "lk"
    · walk_at "lk"
theorem box_s0 {c : Cx} {lev} (ok : c.Ok lev) (hs : c.scope = fnScope (astAt 35)) (ns : List Int) :
    SmJ c [(sO "script", .list (ns.map .int))] (nthSt (fnBody (astAt 35)) 0) (.nxt [(sO "great", .int 0), (sO "seed", .int 29), (sO "script", .list (ns.map .int))]) := by
  refine' sm_tup (as := [.int 29, .int 0]) (xs := [sO "seed", sO "great"]) ok ?v1 ?s1 rfl rfl ?w1 rfl rfl rfl
  case v1 => exact ev_tuple ok (evs_cons ok ev_int (evs_cons ok ev_int evs_nil rfl) rfl) (by simp)
  case s1 => exact .cons (sto_name (kd hs (by kernel_rfl))) (.cons (sto_name (kd hs (by kernel_rfl))) .nil)
  case w1 => exact sw_scope hs (by kernel_rfl)
theorem box_s1 {c : Cx} {lev} (ok : c.Ok lev) (hs : c.scope = fnScope (astAt 35)) (ns : List Int) (hz : ns.length ≤ 63) :
    SmJ c [(sO "great", .int 0), (sO "seed", .int 29), (sO "script", .list (ns.map .int))] (nthSt (fnBody (astAt 35)) 1) (.nxt [(sO "great", .int (boxF ns).g), (sO "seed", .int (boxF ns).s), (sO "script", .list (ns.map .int))]) := by
  refine' sm_for (J := fun j => [(sO "great", .int (bxF (ns.take 24) j).2), (sO "seed", .int (bxF (ns.take 24) j).1), (sO "script", .list (ns.map .int))]) (K := fun j => (sO "cell", .int (valOf (ns.take 24) j)) :: [(sO "great", .int (bxF (ns.take 24) j).2), (sO "seed", .int (bxF (ns.take 24) j).1), (sO "script", .list (ns.map .int))]) (n := (ns.take 24).length) (m := (ns.take 24).length) (item := fun j => .int (valOf (ns.take 24) j)) ok (fun _ => rfl) (IeS.ie (is_ints ok (ev_take ok ?sc (by decide) (by omega) (fun _ _ => rfl)))) rfl ?ht ?hb (Nat.le_refl _) (fun h => absurd h (Nat.lt_irrefl _)) (fun _ => rfl)
  case sc => walk_at "ev"
  case ht => exact fun c1 L i _ _ => as_name L.ok (kd (L.scope.trans hs) (by kernel_rfl)) rfl
  case hb => exact fun c1 L i _ => box_loop L.ok (L.scope.trans hs) _ _ _
theorem box_s2 {c : Cx} {lev} (ok : c.Ok lev) (hs : c.scope = fnScope (astAt 35)) (g s : Int) {a : AV} : EvsJ c [(sO "great", .int g), (sO "seed", .int s), (sO "script", a)] [.Name "great" ⟨183, 12, 183, 17⟩, .Name "seed" ⟨183, 19, 183, 23⟩, .Constant (.int 0) 0 ⟨183, 25, 183, 26⟩] [.int g, .int s, .int 0] := by
  walk_at "evs"
end
theorem con_box (gd : Gd) (lev : Nat) (ns : List Int) (hz : ns.length ≤ 63) (k : Cc) (h : Heap) (tk : Nat) (v : Value) (R : PySem.Result → Shared → Prop) (eg : k.gd = gd) (ok : k.Ok (lev + 1)) (fo : FrOk h k.l) (hH : ∀ a o, gd.H.get? a = some o → h.get? a = some o) (hX : ∀ a ∈ k.X, ∃ o, h.get? a = some o) (r : Rep (vw h k.X) v (.list (ns.map .int)))
    (kR : ∀ h' tk' a t0 t1 t2, Kp (frs k.l) h h' → h.get? a = none → h'.IsList a #[.int (boxF ns).g t0, .int (boxF ns).s t1, .int 0 t2] → R (.ok (.ret (.ref a))) (k.sh h' tk')) : codeAny (MW gd.w) k.A (.call (.ref 1087) ⟨[v], []⟩) R (k.sh h tk) := by
  subst eg
  refine enter_fn (as := [.list (ns.map .int)]) [sO "script"] (show (KK k.gd.w.params).lookup 1087 = some (o1087 k.gd.w.params) by kernel_rfl) (by kernel_rfl)
    (fun s vs hl _ => by obtain ⟨a0, rfl⟩ := len1 hl; exact .of_eq (by kernel_rfl)) (by decide +kernel) ok fo hH hX (.cons r .nil) (fun a ha => by rw [List.mem_singleton.mp ha]; rfl) (fun h₁ tk₁ okc S hk₁ hlt _ => ?_) (by kernel_rfl) (by kernel_rfl) (by kernel_rfl) (by decide +kernel)
  have hL : ∀ a o, h.get? a = some o → a ≠ h.objs.size := fun a o e => Nat.ne_of_lt (Heap.lt_size e)
  generalize hcc : k.cx (sO "_law_box") (fnScope (astAt 35)) h.objs.size 1087 (.ref 1086) = c at okc S ⊢
  have hs : c.scope = fnScope (astAt 35) := by rw [← hcc]; rfl
  have hfr : c.fr = h.objs.size :: frs k.l := by rw [← hcc]; rfl
  have how : c.own = [] := by rw [← hcc]; rfl
  have hL0 : c.L = h.objs.size := by rw [← hcc]; rfl
  have sh : ∀ h tk, k.sh h tk = c.sh h tk := fun _ _ => by rw [← hcc]; rfl
  have hg : MW k.gd.w = c.M := by rw [← hcc]; rfl
  rw [hg, sh]
  clear hcc
  refine wpAny_execs_cons (box_s0 okc hs ns h₁ tk₁ _ _ S fun h2 tk2 k2 S2 => ?_)
  refine wpAny_execs_cons (box_s1 okc hs ns hz h2 tk2 _ _ S2 fun h3 tk3 k3 S3 => ?_)
  refine wpAny_execs_cons (wpAny_Return_some (List_ (box_s2 okc hs _ _ _ h3 tk3 _ _ S3 fun h4 tk4 vs k4 rs => ?_)))
  replace rs := rs.i; obtain ⟨_, _, rfl, r0, rs⟩ := rs
  replace rs := rs.i; obtain ⟨_, _, rfl, r1, rs⟩ := rs
  replace rs := rs.i; obtain ⟨_, _, rfl, r2, rs⟩ := rs
  obtain rfl := rs.i
  obtain ⟨_, rfl⟩ := r0.i; obtain ⟨_, rfl⟩ := r1.i; obtain ⟨_, rfl⟩ := r2.i
  refine wpAny_newList ?_ (by rw [sizeLine_eq]; simp)
  have kall : ∀ o, KpS c h₁ (h4.push o) := fun o => ((k2.trans k3).trans k4.s).trans (Kp.push (fr := c.fr) o).s
  have nf : ∀ a, a ∉ c.own := fun a => by rw [how]; exact fun z => nomatch z
  show R (.ok (.ret (.ref h4.objs.size))) (c.sh _ tk4)
  rw [← sh]
  refine kR _ tk4 h4.objs.size _ _ _ ⟨(Live.of_keeps hk₁).trans (kall _).1, fun a o n e => (kall _).2.1 a o (fun z => ?_) (nf a) (hk₁ a o e), fun a o e => (kall _).2.2 a o (fun z => ?_) (nf a) (hk₁ a o e)⟩ ?_ ⟨_, Heap.get?_push_size _ rfl, rfl, _, rfl⟩
  · rw [hfr] at z
    exact (List.mem_cons.mp z).elim (hL a o e) n
  · rw [hL0] at z
    exact hL a o e z
  · cases q : h.get? h4.objs.size with
    | none => rfl
    | some o =>
      obtain ⟨sl, q'⟩ := ((k2.trans k3).trans k4.s).2.2 _ o (fun z => hL _ o q (z.trans hL0)) (nf _) (hk₁ _ o q)
      exact absurd (Heap.lt_size q') (Nat.lt_irrefl _)
noncomputable def fmtT (P : Params) : List (Str × Value) := ((rawD (KK P) 987).bind strEnt).getD []
theorem fmt_keys (P : Params) : (fmtT P).map (·.1) = SH.map (·.name) := by kernel_rfl
theorem SH_nodup : (SH.map (·.name)).Nodup := by decide +kernel
theorem ds_fmt (w : World) : DS w (KK w.params) 987 (fmtT w.params) := ⟨by kernel_rfl, by kernel_rfl, by rw [fmt_keys]; exact SH_nodup, by kernel_rfl⟩
theorem fmt_val (P : Params) : SH.all (fun r => strIs r.kind (valueAt (fmtT P) r.name)) = true := by kernel_rfl
theorem gl_fmt (P : Params) : nsIn (KK P) mainGlobals (Str.ofString "FORMATS") = some (some (.ref 987)) := by kernel_rfl
theorem gl_len (P : Params) : nsIn (KK P) mainGlobals (Str.ofString "len") = some none := by kernel_rfl
theorem gl_box (P : Params) : nsIn (KK P) mainGlobals (Str.ofString "_law_box") = some (some (.ref 1087)) := by kernel_rfl
theorem gl_bits (P : Params) : nsIn (KK P) mainGlobals (Str.ofString "_law_bits") = some (some (.ref 1113)) := by kernel_rfl
theorem gl_drawn (P : Params) : nsIn (KK P) mainGlobals (Str.ofString "_law_drawn") = some (some (.ref 1120)) := by kernel_rfl
theorem gl_tr (P : Params) : nsIn (KK P) mainGlobals (Str.ofString "_law_turned_right") = some (some (.ref 1134)) := by kernel_rfl
theorem gl_rr (P : Params) : nsIn (KK P) mainGlobals (Str.ofString "_law_range_right") = some (some (.ref 1146)) := by kernel_rfl
theorem kp_box (P : Params) : keepIn (KK P) (.ref 1087) = true := by kernel_rfl
theorem kp_bits (P : Params) : keepIn (KK P) (.ref 1113) = true := by kernel_rfl
theorem kp_drawn (P : Params) : keepIn (KK P) (.ref 1120) = true := by kernel_rfl
theorem kp_tr (P : Params) : keepIn (KK P) (.ref 1134) = true := by kernel_rfl
theorem kp_rr (P : Params) : keepIn (KK P) (.ref 1146) = true := by kernel_rfl
theorem fn_names (P : Params) : isFnK (KK P) 1017 = true := by kernel_rfl
structure LawAt (r : SR) (w : Int) : Prop where
  lay : (PyData.str r.name).canLay0 = true
  bits : BitsOk (bitsF r.kind)
  ex : ∃ q ∈ KD, q.kind = r.kind ∧ checkF q (drawn (bitsF r.kind) w r.name 32) = true ∧ ∀ what ∈ five, RangeOk q (drawn (bitsF r.kind) w r.name 32) (bitsF r.kind) what
  w0 : 0 ≤ encF r (drawn (bitsF r.kind) w r.name 32)
  w1 : encF r (drawn (bitsF r.kind) w r.name 32) < 2 ^ 32
  back : ∃ r', findS (encF r (drawn (bitsF r.kind) w r.name 32)) = some r' ∧ decR r' (encF r (drawn (bitsF r.kind) w r.name 32)) = drawn (bitsF r.kind) w r.name 32
  turn : ∀ k, k < 32 → ∀ what worth, (bitsF r.kind)[k]? = some (what, worth) → TurnOk (drawn (bitsF r.kind) w r.name 32) (encF r (drawn (bitsF r.kind) w r.name 32)) k what worth
section
variable {c : Cx} {lev : Nat} {ρ : Loc}
theorem ev_globS {e : Expr} {s : Str} {t : Tok} (h : EvJ c ρ e (.glob (.str s t))) : EvJ c ρ e (.str s) := fun hp tk Q E S k => h hp tk Q E S fun h' tk' v k1 r1 => by
  obtain rfl := r1.i; exact k h' tk' _ k1 .str
theorem sm_pick {t e1 : Expr} {fe : Expr} {f : Value} {e : Expr} {es : List Expr} {cp yp sp ip ap tp : Pos} {x y tt : Str} {a : Addr} {mk : Addr → List AV} {oc oc' : OC} {d : Int} {as : List AV} {item : AV} (ok : c.Ok (lev + 1)) (ht : TsJ c ρ t false) (hT : EvJ c ρ (.Name tt tp) (.list as)) (h1 : EvJ c ρ fe (.glob f)) (h2 : EvsJ c ρ (e :: es) (mk a)) (h3 : ConB c.gd lev f mk oc oc' (.int d)) (hf : keepIn (KK c.gd.w.params) f = true) (hl : ρ.lookup x = some (.own a oc)) (hu : ∀ y b oc, ρ.lookup y = some (.own b oc) → y = x ∨ b ≠ a) (hy : c.env.kindOf y = some .local) (hr : item.isOwn = false)
    (hd0 : 0 ≤ d) (hd1 : d < 2 ^ 63) (hit : as[d.toNat]? = some item)
    (he : eval (.Call fe (e :: es) [] cp) c.env = (do callWith cp (← eval fe c.env) [] (backTo cp (starEach (e :: es) c.env)) (backToKw cp (keywordEach [] c.env))))
    (hs : starEach (e :: es) c.env = (false, eval e c.env) :: starEach es c.env) (hp : (backTo cp (starEach es c.env)).any (·.1) = false)
    (hsb : ∀ a t, subscripted (.Call fe (e :: es) [] cp) false (.ref a) (.int d t) = operate [.ref a, .int d t] (getItem (.ref a) (.int d t)))
    (hsw : swapsWith (.IfExp t e1 (.Subscript (.Name tt tp) (.Call fe (e :: es) [] cp) sp) ip) (some (.Name y yp)) ap.line c.env = pure false) :
    SmJ c ρ (.Assign [.Name y yp] (.IfExp t e1 (.Subscript (.Name tt tp) (.Call fe (e :: es) [] cp) sp) ip) ap) (.nxt ((y, item) :: (x, .own a oc') :: ρ)) := fun h tk Q E S kq => by
  refine wpAny_Assign_Name (wpAny_IfExp (ht h tk _ _ S fun h1' tk1 k1 => ?_)) hsw
  have S1 := S.kp ok k1
  refine Subscript_ (hT h1' tk1 _ _ S1 fun h2' tk2 v k2 r2 => ?_)
  have S2 := S1.kp ok k2
  refine wp_callB ok h1 h2 h3 hf hl hu he hs hp S2 fun h3' tk3 u S3 k3 r3 => ?_
  refine (sb_list (c := c) (value := .Name tt tp) (slice := .Call fe (e :: es) [] cp) (as := as) (i := d) (a := item) ok hd0 hd1 hit hsb) _ h3' tk3 _ _ v u S3 (r2.mono (k3.vle ok)) r3 fun h4 tk4 z k4 r4 => ?_
  refine store_name ok (S3.kp ok k4) r4 hr hy fun h5 tk5 k5 S5 => ?_
  exact kq h5 tk5 ((((k1.trans k2).s.trans k3).trans k4.s).trans k5) S5
theorem bl_box {x y sc : Str} {fe : Expr} {e2 : Expr} {cp tp vp sp p1 p2 np : Pos} {n1 n2 : Nat} {ns : List Int} {m : Bool} {ss out} (ok : c.Ok (lev + 2)) (h1 : EvJ c ρ fe (.glob (.ref 1087))) (hsc : EvJ c ρ (.Name sc np) (.list (ns.map .int))) (hz : ns.length ≤ 63) (h2 : EvJ c ρ e2 (.bool m))
    (he : eval (.Call fe [.Name sc np] [] cp) c.env = (do callWith cp (← eval fe c.env) [] (backTo cp (starEach [.Name sc np] c.env)) (backToKw cp (keywordEach [] c.env))))
    (hs : starEach [.Name sc np] c.env = (false, eval (.Name sc np) c.env) :: starEach [] c.env)
    (hx : c.env.kindOf x = some .local) (hy : c.env.kindOf y = some .local) (hxy : (x == y) = false)
    (hS1 : starEach [.Call fe [.Name sc np] [] cp, e2] c.env = (false, eval (.Call fe [.Name sc np] [] cp) c.env) :: starEach [e2] c.env) (hS2 : starEach [e2] c.env = (false, eval e2 c.env) :: starEach [] c.env)
    (hsw : swapsWithSole [.Tuple [.Name x p1, .Name y p2] n1 tp] (.Tuple [.Call fe [.Name sc np] [] cp, e2] n2 vp) sp.line c.env = pure false) (hw : swappedStores [.Tuple [.Name x p1, .Name y p2] n1 tp] (.Tuple [.Call fe [.Name sc np] [] cp, e2] n2 vp) c.env = pure (some [x, y])) (hends : out.ends = true)
    (hb : ∀ d, (c.ownify d).Ok (lev + 2) → BlJ (c.ownify d) ((x, .own d (boxF ns).oc) :: (x, .glob (.ref d)) :: (y, .bool m) :: ρ) ss out) :
    BlJ c ρ (.Assign [.Tuple [.Name x p1, .Name y p2] n1 tp] (.Tuple [.Call fe [.Name sc np] [] cp, e2] n2 vp) sp :: ss) out := fun h tk Q E S k => by
  refine wpAny_execs_cons (Assign_Tuple_swapped (names := [x, y]) (Tuple_ (args_cons (Call_ (h1 h tk _ _ S fun h0 tk0 v0 k0 r0 => ?_) he) hS1)) hsw hw)
  obtain rfl := r0.i
  have S0 := S.kp ok k0
  refine callWith_K (S0.gr ok).kx (kp_box _) (args_cons (hsc h0 tk0 _ _ S0 fun h1' tk1 v1 k1 r1 => args_nil ?_) hs) hs rfl
  have S1 := S0.kp ok k1
  refine ⟨(S1.gr ok).kx, wpAny_call ?_⟩
  refine con_box c.gd lev ns hz c.cc h1' tk1 v1 _ rfl ok.cc (S1.cc ok) S1.keep S1.xlt r1 fun h2' tk2 d t0 t1 t2 k2 hnd hD => ?_
  have S2 : St c ρ h2' := S1.kp ok k2
  refine args_cons (h2 h2' tk2 _ _ S2 fun h3' tk3 v3 k3 r3 => args_nil ?_) hS2
  obtain rfl := r3.i
  have hn0 : h.get? d = none := none_back (k0.trans k1) hnd
  have hdX : d ∉ c.X := fun z => by obtain ⟨o, e⟩ := S1.xlt d z; rw [hnd] at e; cases e
  have hf' : d ∉ c.fr := fun z => hdX (ok.frX _ z)
  have ho' : d ∉ c.own := fun z => hdX (ok.ownX _ z)
  have hHd : c.gd.H.get? d = none := by
    cases q : c.gd.H.get? d with
    | none => rfl
    | some o => rw [S.keep d o q] at hn0; cases hn0
  have okh := ok.hide hHd
  have hD3 : h3'.IsList d #[.int (boxF ns).g t0, .int (boxF ns).s t1, .int 0 t2] := hD.at fun o e => k3.2.1 d o hf' e
  have kp : ∀ o, Kp c.fr h3' (h3'.push o) := fun o => Kp.push _
  refine wpAny_newTuple ?_ (by rw [sizeLine_eq]; simp)
  have it : IsTup (h3'.push { cls := Value.type "tuple", data := Data.seq [.ref d, .bool m].toArray }) h3'.objs.size [.ref d, .bool m].toArray := ⟨_, Heap.get?_push_size _ rfl, rfl, _, rfl⟩
  rw [show [x, y].length = ([.ref d, .bool m] : List Value).toArray.size from rfl]
  refine unpackItems_tuple (s := c.sh _ tk3) (show c.B.handled = none from ok.hand) it fun h4 he4 => ?_
  have k2' : Kp c.fr h1' h2' := k2
  have k4 : Kp c.fr h h4 := ((((k0.trans k1).trans k2').trans k3).trans (kp _)).trans (Kp.extBut (fr := c.fr) he4)
  have hD4 : h4.IsList d #[.int (boxF ns).g t0, .int (boxF ns).s t1, .int 0 t2] := hD3.at fun o e => he4 d o (Nat.ne_of_lt (Heap.lt_size (Heap.get?_push_of_some _ e))) (Heap.get?_push_of_some _ e)
  have S4 : St (c.hide d) ρ h4 := S.hide ok k4 hn0 (let ⟨o, e, _⟩ := hD4; ⟨o, e⟩)
  refine stos_do (c := c.hide d) okh (xs := [y, x]) (as := [.bool m, .glob (.ref d)]) (.cons (sto_bind hy) (.cons (sto_bind hx) .nil)) (.cons .bool (.cons .glob .nil)) rfl rfl S4 fun h5 tk5 k5 S5 => ?_
  have hD5 : h5.IsList d #[.int (boxF ns).g t0, .int (boxF ns).s t1, .int 0 t2] := hD4.at fun o e => k5.2.1 d o hf' ho' e
  have S6 : St (c.ownify d) ((x, .own d (boxF ns).oc) :: (x, .glob (.ref d)) :: (y, .bool m) :: ρ) h5 := St.ownify S5 lk_here (There.list hD5) ⟨t0, t1, t2, hD5⟩
  have k6 : KpS c h h5 := k4.s.trans (kps_hide k5)
  have fin := hb d (ok.ownify hHd hdX) h5 tk5 Q E S6 (OutK.ownify k6 hn0 hends k)
  exact fin
end
noncomputable def turnB (b : BoxS) (t : Nat) : BoxS := takeB (if t = 0 then b else takeB b 59) (2 ^ 32)
noncomputable def lawBase (a : Addr) (ns : List Int) (m : Bool) (b : BoxS) : Loc := [(sO "box", .own a b.oc), (sO "titles", .list namesAV), (sO "much", .bool m), (sO "script", .list (ns.map .int))]
noncomputable def lawN (a : Addr) (ns : List Int) (m : Bool) (t : Nat) (r : SR) (b : BoxS) : Loc := [(sO "name", .str r.name), (sO "box", .own a b.oc), (sO "turn", .int t), (sO "titles", .list namesAV), (sO "much", .bool m), (sO "script", .list (ns.map .int))]
section
theorem law_bits {c : Cx} {lev} (ok : c.Ok (lev + 12)) (hs : c.scope = fnScope (astAt 45)) (r : SR) (w : Int) (LA : LawAt r w) (m : Bool) {ρ : Loc} (l1 : ρ.lookup (Str.ofString "made") = some (drawn (bitsF r.kind) w r.name 32).av) (l2 : ρ.lookup (Str.ofString "whole") = some (.int (encF r (drawn (bitsF r.kind) w r.name 32)))) (l3 : ρ.lookup (Str.ofString "bits") = some (bitsAV (bitsF r.kind))) (l4 : ρ.lookup (Str.ofString "much") = some (.bool m)) (l5 : ρ.lookup (sO "k") = none) :
    SmJ c ρ (nthSt (forBody (nthSt (fnBody (astAt 45)) 2)) 5) (.nxt ρ) := by
  have hn := drawn_nm (bitsF r.kind) w r.name 32
  have hT := LA.turn
  have hlay := LA.lay
  have hlen := LA.bits.len
  generalize drawn (bitsF r.kind) w r.name 32 = i at *
  generalize encF r i = W at *
  generalize bitsF r.kind = bs at *
  refine' sm_for (J := fun _ => ρ) (K := fun k => (sO "k", .int (k : Nat)) :: ρ) (n := 32) (m := 32) (item := fun k => .int (k : Nat)) ok (fun _ => rfl) (IeS.ie (is_range1 (n := 32) ok (ev_builtin ok (gl_range _) (by decide +kernel) ok.kind (kd hs (by kernel_rfl)) (by decide +kernel) (by kernel_rfl)) (evs_cons ok ev_int evs_nil rfl) (by decide) rfl rfl)) rfl ?ht ?hb (Nat.le_refl _) (fun h => absurd h (Nat.lt_irrefl _)) (fun _ => rfl)
  case ht => exact fun c1 L i _ _ => as_name L.ok (kd (L.scope.trans hs) (by kernel_rfl)) rfl
  case hb =>
    intro c1 L k hk
    have ok1 := L.ok
    have hs1 := L.scope.trans hs
    clear ok hs
    obtain ⟨what, worth, hbk⟩ : ∃ what worth, bs[k]? = some (what, worth) := ⟨_, _, List.getElem?_eq_getElem (by rw [hlen]; exact hk)⟩
    have lc : ∀ {x : Str} {v : AV}, (x == sO "k") = false → ρ.lookup x = some v → List.lookup x ((sO "k", .int (k : Nat)) :: ρ) = some v := fun h1 h2 => lk_next h1 h2
    refine' bl_if ok1 (b := !true) ?t (fun h => nomatch h) (fun h => nomatch h) (fun _ => bl_weak bl_nil (wk_cons l5 wk_nil))
    case t =>
      refine' ts_not (ts_bool (ev_callK ok1 (ev_global ok1 (gl_tr _) ok1.kind (kd hs1 (by kernel_rfl)) (by kernel_rfl)) (evs_cons ok1 ?e1 (evs_cons ok1 ?e2 (evs_cons ok1 ?e3 (evs_cons ok1 ?e4 (evs_cons ok1 ?e5 evs_nil rfl) rfl) rfl) rfl) rfl) (con_ca (lev := lev + 11) ok1 (con_tr c1.gd (lev + 1) i (hn ▸ hlay) W bs k hk what worth hbk m (hT k hk what worth hbk))) (kp_tr _) rfl rfl rfl) rfl)
      case e1 => exact ev_lk ok1 hs1 (lc (by kernel_rfl) l1) (by kernel_rfl) (by kernel_rfl)
      case e2 => exact ev_lk ok1 hs1 (lc (by kernel_rfl) l2) (by kernel_rfl) (by kernel_rfl)
      case e3 => exact ev_lk ok1 hs1 (lc (by kernel_rfl) l3) (by kernel_rfl) (by kernel_rfl)
      case e4 => exact ev_lk ok1 hs1 lk_here (by kernel_rfl) (by kernel_rfl)
      case e5 => exact ev_lk ok1 hs1 (lc (by kernel_rfl) l4) (by kernel_rfl) (by kernel_rfl)
noncomputable def lawRest : List Stmt → List Stmt | _ :: l => l | [] => []
theorem law_key {c : Cx} {lev} {a : Addr} (ok : c.Ok (lev + 12)) (hs : c.scope = fnScope (astAt 45)) (ns : List Int) (m : Bool) (t : Nat) (b : BoxS) {mm : Int} (hb : BoxOk b mm) (hm : mm ≤ 1000) (r : SR) (hr : r ∈ SH) (LA : LawAt r (takeD b (2 ^ 32))) :
    BlJ c (lawN a ns m t r b) (lawRest (forBody (nthSt (fnBody (astAt 45)) 2))) (.nxt (lawBase a ns m (takeB b (2 ^ 32)))) := by
  unfold lawN
  have hfv := List.all_eq_true.mp (fmt_val c.gd.w.params) r hr
  obtain ⟨tk, hfv⟩ := strIs_of hfv
  refine' bl_cons (sm_assign (x := sO "bits") (a := bitsAV (bitsF r.kind)) ok ?v1 (kd hs (by kernel_rfl)) rfl rfl) ?d1
  case v1 =>
    refine' ev_callK ok (ev_global ok (gl_bits _) ok.kind (kd hs (by kernel_rfl)) (by kernel_rfl)) (evs_cons ok (ev_globS (t := tk) (ev_sub ok (ev_global ok (gl_fmt _) ok.kind (kd hs (by kernel_rfl)) (by kernel_rfl)) ?n (sb_DS ok (ds_fmt _) hfv (fun _ _ => rfl)))) evs_nil rfl) (con_ca (lev := lev + 11) ok (con_bits c.gd (lev + 8) r.kind)) (kp_bits _) rfl rfl rfl
    case n => walk_at "ev"
  case d1 =>
  refine' bl_cons (sm_callB (x := sO "box") (y := sO "made") (a := a) (mk := fun a => [.own a b.oc, .str r.name, bitsAV (bitsF r.kind)]) (oc := b.oc) (oc' := (takeB b (2 ^ 32)).oc) (r := (drawn (bitsF r.kind) (takeD b (2 ^ 32)) r.name 32).av) ok (ev_global ok (gl_drawn _) ok.kind (kd hs (by kernel_rfl)) (by kernel_rfl)) ?e2 (con_drawn c.gd (lev + 7) b hb hm (bitsF r.kind) LA.bits r.name) (kp_drawn _) ?l2 (hu_of (by kernel_rfl)) (kd hs (by kernel_rfl)) rfl rfl rfl rfl rfl) ?d2
  case e2 =>
    refine' evs_cons ok ?n1 (evs_cons ok ?n2 (evs_cons ok ?n3 evs_nil rfl) rfl) rfl
    case n1 => walk_at "ev"
    case n2 => walk_at "ev"
    case n3 => walk_at "ev"
  case l2 => walk_at "lk"
  case d2 =>
  generalize takeD b (2 ^ 32) = w at *
  generalize (takeB b (2 ^ 32)) = b2
  have hn := drawn_nm (bitsF r.kind) w r.name 32
  obtain ⟨q, hq, hqk, hqc, hqr⟩ := LA.ex
  obtain ⟨r', hf, hd⟩ := LA.back
  have hw0 := LA.w0
  have hw1 := LA.w1
  have hlay := LA.lay
  have hblen := LA.bits.len
  have hJ := con_enc c.gd (lev + 4) r hr q hq hqk _ hn
  rw [if_pos hqc] at hJ
  have hBits := fun {ρ : Loc} => @law_bits c lev ok hs r w LA m ρ
  generalize drawn (bitsF r.kind) w r.name 32 = i at *
  generalize bitsF r.kind = bs at *
  refine' bl_cons (sm_assign (x := sO "whole") (a := .int (encF r i)) ok ?v3 (kd hs (by kernel_rfl)) rfl rfl) ?d3
  case v3 =>
    refine' ev_callK ok (ev_global ok (gl_enc _) ok.kind (kd hs (by kernel_rfl)) (by kernel_rfl)) (evs_cons ok ?n evs_nil rfl) (con_ca (lev := lev + 11) ok hJ) (kp_enc _) rfl rfl rfl
    case n => walk_at "ev"
  case d3 =>
  generalize encF r i = W at *
  refine' bl_if ok (b := !(decide (0 ≤ W) && decide (W < 4294967296)) || ((!PyData.eqv (.tuple ((insT (decR r' W)).map toPD)) (.tuple ((insT i).map toPD))) || false)) ?t4 ?n4 ?x4 ?y4
  case t4 =>
    refine' ts_boolop (ta_or ok (ts_not (ts_chain ok ev_int ?m1 ?m2 op_le op_lt rfl)) (fun _ => ta_or ok (ts_cmp ok (ev_fields ok ?f1 (con_ca (lev := lev + 11) ok (con_fields c.gd (lev + 10) _ _ _ _ _ _)) rfl) (ev_fields ok ?f2 (con_ca (lev := lev + 11) ok (con_fields c.gd (lev + 10) _ _ _ _ _ _)) rfl) (op_net ok rfl rfl (shaped_ins ?s1) (shaped_ins (i := i) (hn ▸ hlay))) rfl) (fun _ => ta_or_nil)))
    case m1 => walk_at "ev"
    case m2 => exact ev_eq (ev_bin ok ev_int ev_int (op_pow (by decide) (by decide))) rfl
    case f1 =>
      refine' ev_callK ok (ev_global ok (gl_dec _) ok.kind (kd hs (by kernel_rfl)) (by kernel_rfl)) (evs_cons ok ?n evs_nil rfl) (con_ca (lev := lev + 11) ok (con_dec c.gd (lev + 7) hw0 hw1 hf)) (kp_dec _) rfl rfl rfl
      case n => walk_at "ev"
    case f2 => walk_at "ev"
    case s1 => rw [hd]; exact hn ▸ hlay
  case n4 => rw [hd, eqv_ins, decide_eq_true hw0, decide_eq_true (show W < 4294967296 from hw1)]; exact fun h => nomatch h
  case x4 => rw [hd, eqv_ins, decide_eq_true hw0, decide_eq_true (show W < 4294967296 from hw1)]; exact fun h => nomatch h
  case y4 =>
  intro _
  refine' bl_cons (hBits ?b1 ?b2 ?b3 ?b4 ?b5) ?d5
  case b1 => walk_at "lk"
  case b2 => walk_at "lk"
  case b3 => walk_at "lk"
  case b4 => walk_at "lk"
  case b5 => kernel_rfl
  case d5 =>
  refine' bl_if ok (b := m && ((!true) && true)) ?t6 ?n6 ?x6 ?y6
  case t6 =>
    refine' ts_boolop (ta_and ok (ts_bool ?m1 rfl) (fun _ => ta_and ok (ts_not (ts_bool (ev_callK ok (ev_global ok (gl_rr _) ok.kind (kd hs (by kernel_rfl)) (by kernel_rfl)) (evs_cons ok ?m2 (evs_cons ok ?m3 evs_nil rfl) rfl) (con_ca (lev := lev + 11) ok (con_rr c.gd lev r hr q hq hqk i hn bs (by omega) hqr)) (kp_rr _) rfl rfl rfl) rfl)) (fun _ => ta_and_nil)))
    case m1 => walk_at "ev"
    case m2 => walk_at "ev"
    case m3 => walk_at "ev"
  case n6 => cases m <;> exact fun h => nomatch h
  case x6 => cases m <;> exact fun h => nomatch h
  case y6 =>
  intro _
  refine bl_weak bl_nil ?_
  intro x v e
  unfold lawBase at e
  have := lookup_mem e
  simp only [List.mem_cons, Prod.mk.injEq, List.not_mem_nil, or_false] at this
  rcases this with ⟨rfl, rfl⟩ | ⟨rfl, rfl⟩ | ⟨rfl, rfl⟩ | ⟨rfl, rfl⟩
  · walk_at "lk"
  · walk_at "lk"
  · walk_at "lk"
  · walk_at "lk"
end
noncomputable def jalR : SR := ⟨155, sO "jal", sO "J", 111, 0, 0⟩
theorem jal_mem : jalR ∈ SH := by
  unfold SH jalR
  exact .tail _ (.tail _ (.head _))
noncomputable def lawB (ns : List Int) : Nat → BoxS
  | 0 => boxF ns
  | t + 1 => turnB (lawB ns t) t
theorem lawB_ok (ns : List Int) : ∀ t, BoxOk (lawB ns t) (2 * t)
  | 0 => boxF_ok ns
  | t + 1 => by
    have h := lawB_ok ns t
    unfold lawB turnB
    have h2 : BoxOk (if t = 0 then lawB ns t else takeB (lawB ns t) 59) (2 * t + 1) := by
      split
      · exact ⟨h.s0, h.s1, h.n0, by have := h.n1; omega⟩
      · exact takeB_ok h
    have h3 := takeB_ok (many := 2 ^ 32) h2
    exact ⟨h3.s0, h3.s1, h3.n0, Int.le_trans h3.n1 (by push_cast; omega)⟩
noncomputable def muchF (ns : List Int) : Bool := decide (1 < sumW (ns.map absI))
noncomputable def turnsF (ns : List Int) : Nat := 1 + min ns.length 3 * (if muchF ns then 1 else 0)
section
theorem law_turn {c : Cx} {lev} {a : Addr} (ok : c.Ok (lev + 12)) (hs : c.scope = fnScope (astAt 45)) (ns : List Int) (m : Bool) (t : Nat) (b : BoxS) {mm : Int} (hb : BoxOk b mm) (hm : mm ≤ 900) (L : ∀ r ∈ SH, ∀ w, 0 ≤ w → w < 2 ^ 32 → LawAt r w) :
    BlJ c ((sO "turn", .int (t : Nat)) :: lawBase a ns m b) (forBody (nthSt (fnBody (astAt 45)) 2)) (.nxt (lawBase a ns m (turnB b t))) := by
  by_cases ht : t = 0
  · subst ht
    have e : turnB b 0 = takeB b (2 ^ 32) := by unfold turnB; rw [if_pos rfl]
    rw [e]
    unfold lawBase
    refine' bl_cons (sm_assign (x := sO "name") (a := .str (sO "jal")) ok (ev_if ok (b := true) ?t1 (fun _ => ev_str) (fun h => nomatch h)) (kd hs (by kernel_rfl)) rfl rfl) (bl_pre (law_key ok hs ns m 0 b hb (by omega) jalR jal_mem (L _ jal_mem _ (takeD_range (by decide)).1 (takeD_range (by decide)).2)) ?w)
    case t1 => refine' ts_eq ?e1 ?q1; (case e1 => walk_at "ts"); (case q1 => rfl)
    case w =>
      intro x v e
      unfold lawN at e
      have := lookup_mem e
      simp only [List.mem_cons, Prod.mk.injEq, List.not_mem_nil, or_false] at this
      rcases this with ⟨rfl, rfl⟩ | ⟨rfl, rfl⟩ | ⟨rfl, rfl⟩ | ⟨rfl, rfl⟩ | ⟨rfl, rfl⟩ | ⟨rfl, rfl⟩
      · exact lk_here
      · walk_at "lk"
      · walk_at "lk"
      · walk_at "lk"
      · walk_at "lk"
      · walk_at "lk"
  · have e : turnB b t = takeB (takeB b 59) (2 ^ 32) := by unfold turnB; rw [if_neg ht]
    rw [e]
    have hd := takeD_range (b := b) (many := 59) (by decide)
    have hlen : SH.length = 59 := by decide +kernel
    have hd' : (takeD b 59).toNat < SH.length := by rw [hlen]; omega
    have hmem : SH[(takeD b 59).toNat] ∈ SH := List.getElem_mem hd'
    have hit : namesAV[(takeD b 59).toNat]? = some (.str (SH[(takeD b 59).toNat]).name) := by
      unfold namesAV
      rw [List.getElem?_map, List.getElem?_eq_getElem hd']; rfl
    generalize SH[(takeD b 59).toNat] = r at hmem hit
    have hb1 := takeB_ok (many := 59) hb
    have hcon := con_take c.gd (lev + 10) b hb (by omega) 59 (by decide) (by decide)
    unfold lawBase
    refine' bl_cons (sm_pick (x := sO "box") (y := sO "name") (a := a) (mk := fun a => [.own a b.oc, .int 59]) (oc := b.oc) (oc' := (takeB b 59).oc) (d := takeD b 59) (as := namesAV) (item := .str r.name) ok ?t1 ?t2 (ev_global ok (gl_take _) ok.kind (kd hs (by kernel_rfl)) (by kernel_rfl)) ?e2 hcon (kp_take _) ?l2 (hu_of (by kernel_rfl)) (kd hs (by kernel_rfl)) rfl hd.1 (by omega) hit rfl rfl rfl (fun _ _ => rfl) rfl)
      (bl_pre (law_key ok hs ns m t (takeB b 59) hb1 (by omega) r hmem (L _ hmem _ (takeD_range (by decide)).1 (takeD_range (by decide)).2)) ?w)
    case t1 => refine' ts_eq ?e1 ?q1; (case e1 => walk_at "ts"); (case q1 => exact beq_eq_false_iff_ne.mpr (by omega))
    case t2 => walk_at "ev"
    case e2 =>
      refine' evs_cons ok ?n1 (evs_cons ok (ev_callB ok (ev_builtin ok (gl_len _) (by decide +kernel) ok.kind (kd hs (by kernel_rfl)) (by decide +kernel) (by kernel_rfl)) (evs_cons ok ?n2 evs_nil rfl) (ca_len (as := namesAV) (by decide +kernel)) rfl rfl rfl) evs_nil rfl) rfl
      case n1 => walk_at "ev"
      case n2 => walk_at "ev"
    case l2 => walk_at "lk"
    case w =>
      intro x v e
      unfold lawN at e
      have := lookup_mem e
      simp only [List.mem_cons, Prod.mk.injEq, List.not_mem_nil, or_false] at this
      rcases this with ⟨rfl, rfl⟩ | ⟨rfl, rfl⟩ | ⟨rfl, rfl⟩ | ⟨rfl, rfl⟩ | ⟨rfl, rfl⟩ | ⟨rfl, rfl⟩
      · exact lk_here
      · walk_at "lk"
      · walk_at "lk"
      · walk_at "lk"
      · walk_at "lk"
      · walk_at "lk"
theorem law_body {c : Cx} {lev} (ok : c.Ok (lev + 12)) (hs : c.scope = fnScope (astAt 45)) (ns : List Int) (hz : ns.length ≤ 63) (L : ∀ r ∈ SH, ∀ w, 0 ≤ w → w < 2 ^ 32 → LawAt r w) :
    BlJ c [(sO "script", .list (ns.map .int))] (fnBody (astAt 45)) (.ret (.bool true)) := by
  refine' bl_box (x := sO "box") (y := sO "much") (ns := ns) (m := muchF ns) ok (ev_global ok (gl_box _) ok.kind (kd hs (by kernel_rfl)) (by kernel_rfl)) ?sc hz ?e2 rfl rfl (kd hs (by kernel_rfl)) (kd hs (by kernel_rfl)) (by kernel_rfl) rfl rfl rfl (sw_scope hs (by kernel_rfl)) rfl ?b
  case sc => walk_at "ev"
  case e2 =>
    refine' ev_cmp ok (ev_callB ok (ev_builtin ok (gl_sum _) (by decide +kernel) ok.kind (kd hs (by kernel_rfl)) (by decide +kernel) (by kernel_rfl)) (evs_cons ok ?w1 evs_nil rfl) (ca_sum (ns := ns.map absI) ok) rfl rfl rfl) ev_int op_gt rfl
    case w1 =>
      refine' ev_comp (n := ns.length) (item := fun j => .int (valOf ns j)) (kp := fun _ => true) (el := fun j => .int (absI (valOf ns j))) (σ := fun j => [(Str.ofString "cell", .int (valOf ns j))]) (cl := []) ok (clos_env (cells := c.cells) rfl (by kernel_rfl)) (by decide +kernel) (by kernel_rfl) (by decide +kernel) (is_ints ok ?it) (fun _ => rfl) (by omega) ?ht (fun _ _ _ _ => cf_nil) ?he ?ho
      case it => walk_at "ev"
      case ht => exact fun C j _ => ct_name (by kernel_rfl) (kdc hs (by kernel_rfl))
      case he => exact fun X C j _ _ => ce_abs ok (ce_name lk_here (by kernel_rfl) (kdc hs (by kernel_rfl)) (by kernel_rfl)) (by kernel_rfl) (kdc hs (by kernel_rfl)) (gl_abs _) rfl rfl
      case ho =>
        rw [List.map_map]
        exact (rfm ns 0 (fun _ => true) (fun n => AV.int (absI n))).trans (by rw [List.filter_eq_self.mpr (fun _ _ => rfl)]; rfl)
  case b =>
  intro a ok
  have hs : (c.ownify a).scope = fnScope (astAt 45) := hs
  generalize c.ownify a = c at ok hs ⊢
  refine' bl_cons (sm_assign (x := sO "titles") (a := .list namesAV) ok ?v1 (kd hs (by kernel_rfl)) rfl rfl) ?d1
  case v1 => exact ev_call ok (ev_global ok (gl_names _) ok.kind (kd hs (by kernel_rfl)) (by kernel_rfl)) evs_nil (con_ca (lev := lev + 11) ok (con_names c.gd (lev + 10))) (fn_names _) rfl (.inl ⟨rfl, rfl⟩)
  case d1 =>
  refine bl_pre (ρ' := lawBase a ns (muchF ns) (lawB ns 0)) ?_ ?w
  case w =>
    intro x v e
    unfold lawBase at e
    have := lookup_mem e
    simp only [List.mem_cons, Prod.mk.injEq, List.not_mem_nil, or_false] at this
    rcases this with ⟨rfl, rfl⟩ | ⟨rfl, rfl⟩ | ⟨rfl, rfl⟩ | ⟨rfl, rfl⟩
    · exact lk_next (by kernel_rfl) lk_here
    · walk_at "lk"
    · walk_at "lk"
    · walk_at "lk"
  have hmin : (if (3 : Int) < (ns.length : Int) then (3 : Int) else (ns.length : Int)) = ((min ns.length 3 : Nat) : Int) := by split <;> omega
  refine' bl_cons (sm_for (J := fun t => lawBase a ns (muchF ns) (lawB ns t)) (K := fun t => (sO "turn", .int (t : Nat)) :: lawBase a ns (muchF ns) (lawB ns t)) (n := turnsF ns) (m := turnsF ns) (item := fun t => .int (t : Nat)) (out := .nxt (lawBase a ns (muchF ns) (lawB ns (turnsF ns)))) ok (fun _ => rfl) (IeS.ie (is_range1 (n := turnsF ns) ok (ev_builtin ok (gl_range _) (by decide +kernel) ok.kind (kd hs (by kernel_rfl)) (by decide +kernel) (by kernel_rfl)) (evs_cons ok ?rg evs_nil rfl) ?rz rfl rfl)) rfl ?ht ?hb (Nat.le_refl _) (fun h => absurd h (Nat.lt_irrefl _)) (fun _ => rfl)) ?d2
  case rg =>
    have l1 : (lawBase a ns (muchF ns) (lawB ns 0)).lookup (Str.ofString "script") = some (.list (ns.map .int)) := by unfold lawBase; walk_at "lk"
    have l2 : (lawBase a ns (muchF ns) (lawB ns 0)).lookup (Str.ofString "much") = some (.bool (muchF ns)) := by unfold lawBase; walk_at "lk"
    refine' ev_eq (ev_bin ok ev_int (ev_bin ok (ev_callB ok (ev_builtin ok (gl_min _) (by decide +kernel) ok.kind (kd hs (by kernel_rfl)) (by decide +kernel) (by kernel_rfl)) (evs_cons ok (ev_callB ok (ev_builtin ok (gl_len _) (by decide +kernel) ok.kind (kd hs (by kernel_rfl)) (by decide +kernel) (by kernel_rfl)) (evs_cons ok (ev_lk ok hs l1 (by kernel_rfl) (by kernel_rfl)) evs_nil rfl) (ca_len (as := ns.map .int) (by rw [List.length_map]; omega)) rfl rfl rfl) (evs_cons ok ev_int evs_nil rfl) rfl) (ca_min2 ok) rfl rfl rfl)
      (ev_callT ok (ev_builtin ok (gl_int _) (by decide +kernel) ok.kind (kd hs (by kernel_rfl)) (by decide +kernel) (by kernel_rfl)) (evs_cons ok (ev_lk ok hs l2 (by kernel_rfl) (by kernel_rfl)) evs_nil rfl) ca_intb rfl rfl rfl) (op_mul ?mz)) op_add) ?q
    case mz => cases muchF ns <;> exact .of_right (intBits_le_64 (by decide) (by decide))
    case q =>
      rw [List.length_map, hmin]
      unfold turnsF
      congr 1
      cases muchF ns
      · simp
      · simp
  case rz => unfold turnsF; split <;> omega
  case ht => exact fun c1 L i _ _ => as_name L.ok (kd (L.scope.trans hs) (by kernel_rfl)) rfl
  case hb =>
    intro c1 L1 t ht
    have hb := lawB_ok ns t
    have : turnsF ns ≤ 64 := by unfold turnsF; split <;> omega
    exact law_turn L1.ok (L1.scope.trans hs) ns (muchF ns) t (lawB ns t) hb (by omega) L
  case d2 =>
  exact bl_ret (sm_return ev_bool)
end
theorem con_law (gd : Gd) (ns : List Int) (hz : ns.length ≤ 63) (L : ∀ r ∈ SH, ∀ w, 0 ≤ w → w < 2 ^ 32 → LawAt r w) : Con gd (12 + 1) (.ref 1151) [.list (ns.map .int)] (.ok (.bool true)) :=
  con_fn (lev := 12) (as := [.list (ns.map .int)]) (out := .ret (.bool true)) [sO "script"] (show (KK gd.w.params).lookup 1151 = some (o1151 gd.w.params) by kernel_rfl) (by kernel_rfl)
    (fun s vs hl _ => by obtain ⟨a0, rfl⟩ := len1 hl; exact .of_eq (by kernel_rfl)) (by decide +kernel)
    (fun c hg ok hs hn' => law_body (lev := 0) ok hs ns hz L) (by kernel_rfl) (by kernel_rfl) (by kernel_rfl) (by decide +kernel)
theorem walk (L : ∀ r ∈ SH, ∀ w, 0 ≤ w → w < 2 ^ 32 → LawAt r w) : WalkO qv looseL (fun _ _ => True) YP PySem.Challenge.rw_nz0215_01.row.toRowW ⟨sO "law", fnParams (astAt 45), fnBody (astAt 45), fnScope (astAt 45), ⟨268, 0, 283, 15⟩⟩ [] fun f vs => PySem.call f vs := by
  intro w s₀ s₁ mg mb G Y fa o pm cd doc dV kV ho hd hcd hD hmg hg args vals as hpre hlay hrd hwl hlo
  have KX : (KK w.params).In s₁.heap := Y
  have X := (Ground.X G)
  refine Ground.open G ?_
  intro T B D TE TW
  wrow_args hpre hlay hrd hwl hlo
  rename_i ns _ _ _ _ _ _ _ a vs _ hL ra w1 r0 hI hr h63 _
  have hfa : fa = 1151 := by
    have e := mg_of KX T.g (by kernel_rfl : nsIn (KK w.params) mainGlobals (sO "law") = some (some (.ref 1151)))
    have e2 := hmg.symm.trans e
    cases e2; rfl
  subst hfa
  have hz : ns.length ≤ 63 := by omega
  refine wpAny_call ?_
  let gd : Gd := ⟨w, mg, mb, s₁.heap⟩
  let k : Cc := ⟨gd, callerA, [], [], s₁.gens, s₁.drawn, s₁.os⟩
  have okk : k.Ok 13 := ⟨⟨KX, T.g, T.b, T.nolimit, T.builtins⟩, rfl, (by show 1 + claimMargin + 13 ≤ 900; decide), (by show 4 + 20 * 13 ≤ 9000; decide), rfl, (fun _ z => nomatch z), (fun _ _ _ z => nomatch z)⟩
  refine con_law gd ns hz L k s₁.heap s₁.toks [.ref a] _ rfl okk (fun _ z => nomatch z) (fun _ _ e => e) (fun _ z => nomatch z) (.cons ?rp .nil) ?kk
  case rp =>
    obtain ⟨o, e, c, n, d⟩ := hL
    exact .list (n := n) (vs := vs) (o := o) (by unfold vw; rw [if_neg (fun z => nomatch z)]; exact e) c d (are_ints hI)
  case kk =>
    intro h' tk' v q r
    obtain rfl := r.i
    refine ⟨.inl ⟨_, _, [], rfl, fun _ => rfl, ReadsW.bool true, ?_, fun _ => ⟨List.nodup_nil, fun _ hm => (nomatch hm)⟩⟩, .of_keep fun a o e => q.2.1 a o (fun z => nomatch z) e, rfl, .of_eq hg⟩
    first | rfl | wrow_post
noncomputable def bt (w : Int) (j : Nat) : Int := w / 2 ^ j % 2
theorem bt01 (w : Int) (j : Nat) : bt w j = 0 ∨ bt w j = 1 := by unfold bt; omega
noncomputable def seg (f : Nat → Int) (lo : Nat) : Nat → Int
  | 0 => 0
  | n + 1 => seg f lo n + f (lo + n) * 2 ^ n
theorem two_pos (n : Nat) : (0 : Int) < 2 ^ n := Int.pow_pos (by decide)
theorem emod_two (x : Int) (n : Nat) : x % 2 ^ (n + 1) = x % 2 ^ n + x / 2 ^ n % 2 * 2 ^ n := by
  have hp := two_pos n
  rw [Int.pow_succ]
  generalize (2 : Int) ^ n = p at hp
  have h1 := Int.mul_ediv_add_emod x p
  have h2 := Int.emod_nonneg x (Int.ne_of_gt hp)
  have h3 := Int.emod_lt_of_pos x hp
  have h4 := Int.mul_ediv_add_emod (x / p) 2
  have h5 : x / p % 2 = 0 ∨ x / p % 2 = 1 := by omega
  generalize x / p % 2 = u at h4 h5
  generalize x / p / 2 = t at h4
  generalize x / p = q at h1 h4
  generalize x % p = s at h1 h2 h3
  subst h4
  have e : x = (s + u * p) + (p * 2) * t := by rw [← h1, Int.mul_add]; rw [Int.mul_assoc, Int.mul_comm p u]; omega
  rw [e, Int.add_mul_emod_self_left]
  rcases h5 with h | h
  · subst h; rw [Int.emod_eq_of_lt] <;> omega
  · subst h; rw [Int.emod_eq_of_lt] <;> omega
theorem seg_bt (w : Int) (lo : Nat) : ∀ n, seg (bt w) lo n = w / 2 ^ lo % 2 ^ n
  | 0 => by unfold seg; rw [Int.pow_zero, Int.emod_one]
  | n + 1 => by
    unfold seg
    rw [seg_bt w lo n, emod_two]
    unfold bt
    rw [Int.ediv_ediv_of_nonneg (Int.le_of_lt (two_pos lo)), ← Int.pow_add]
theorem seg_whole {w : Int} {n : Nat} (h0 : 0 ≤ w) (h1 : w < 2 ^ n) : seg (bt w) 0 n = w := by
  rw [seg_bt, Int.pow_zero, Int.ediv_one, Int.emod_eq_of_lt h0 h1]
theorem seg_congr {f g : Nat → Int} {lo : Nat} : ∀ {n}, (∀ j, lo ≤ j → j < lo + n → f j = g j) → seg f lo n = seg g lo n
  | 0, _ => rfl
  | n + 1, h => by
    unfold seg
    rw [seg_congr (n := n) fun j a b => h j a (by omega), h (lo + n) (by omega) (by omega)]
theorem seg_range {f : Nat → Int} (h : ∀ j, f j = 0 ∨ f j = 1) : ∀ n, 0 ≤ seg f 0 n ∧ seg f 0 n < 2 ^ n
  | 0 => ⟨Int.le_refl _, by show (0 : Int) < 1; decide⟩
  | n + 1 => by
    have ih := seg_range h n
    unfold seg
    rw [Int.pow_succ]
    rcases h (0 + n) with e | e <;> rw [e] <;> omega
theorem bt_seg {f : Nat → Int} (h : ∀ j, f j = 0 ∨ f j = 1) : ∀ n j, j < n → bt (seg f 0 n) j = f j
  | n + 1, j, hj => by
    have r := seg_range h n
    have hp := two_pos n
    unfold seg
    by_cases q : j = n
    · subst q
      unfold bt
      rw [Int.add_mul_ediv_right _ _ (Int.ne_of_gt hp), Int.ediv_eq_zero_of_lt r.1 r.2, Nat.zero_add]
      rcases h j with e | e <;> rw [e] <;> rfl
    · have hj' : j < n := by omega
      have ih := bt_seg h n j hj'
      rw [← ih]
      unfold bt
      have e : (2 : Int) ^ n = 2 ^ (n - j - 1) * 2 * 2 ^ j := by rw [← Int.pow_succ, ← Int.pow_add]; congr 1; omega
      rw [e, ← Int.mul_assoc, Int.add_mul_ediv_right _ _ (Int.ne_of_gt (two_pos j)), ← Int.mul_assoc, Int.add_mul_emod_self_right]
theorem seg_flip (f : Nat → Int) (j : Nat) (v : Int) : ∀ n, seg (fun i => if i = j then v else f i) 0 n = seg f 0 n + if j < n then (v - f j) * 2 ^ j else 0
  | 0 => rfl
  | n + 1 => by
    unfold seg
    rw [seg_flip f j v n]
    by_cases q : j = n
    · subst q
      simp only [Nat.zero_add, if_true, Nat.lt_irrefl, if_false, Nat.lt_succ_self, Int.sub_mul]
      omega
    · rw [if_neg (show ¬ (0 + n = j) by omega)]
      by_cases q2 : j < n
      · rw [if_pos q2, if_pos (by omega)]; omega
      · rw [if_neg q2, if_neg (by omega)]; omega
theorem bnot (x : Int) : Builtin.bitNot x = -x - 1 := rfl
theorem band_nat (a b : Nat) : band a b = ((a &&& b : Nat) : Int) := by
  unfold band Builtin.bitAnd
  simp
theorem band_neg (a b : Nat) : band (-(a : Int) - 1) (-(b : Int) - 1) = -((a ||| b : Nat) : Int) - 1 := by
  unfold band Builtin.bitAnd
  rw [decide_eq_false (by omega), decide_eq_false (by omega)]
  simp only [bnot]
  have e1 : (-(-(a : Int) - 1) - 1).toNat = a := by omega
  have e2 : (-(-(b : Int) - 1) - 1).toNat = b := by omega
  rw [e1, e2]
theorem bor_nat (a b : Nat) : bor a b = ((a ||| b : Nat) : Int) := by
  show -(band (-(a : Int) - 1) (-(b : Int) - 1)) - 1 = _
  rw [band_neg]; omega
theorem band_mod (x : Int) (m : Nat) : band x (2 ^ m - 1) = x % 2 ^ m := by
  have hp : (1 : Nat) ≤ 2 ^ m := Nat.one_le_two_pow
  have e : ((2 : Int) ^ m - 1) = ((2 ^ m - 1 : Nat) : Int) := by push_cast [Int.ofNat_sub hp]; rfl
  have e2 : ((2 : Int) ^ m) = ((2 ^ m : Nat) : Int) := by push_cast; rfl
  rcases Int.lt_or_le x 0 with h | h
  · obtain ⟨n, rfl⟩ : ∃ n : Nat, x = -(n : Int) - 1 := ⟨(-x - 1).toNat, by omega⟩
    rw [e]
    unfold band Builtin.bitAnd
    rw [decide_eq_false (by omega), decide_eq_true (by omega)]
    simp only [bnot]
    have e1 : (-(-(n : Int) - 1) - 1).toNat = n := by omega
    rw [e1, Int.toNat_natCast, Nat.and_comm, Nat.and_two_pow_sub_one_eq_mod, e2]
    have h1 := Nat.mod_lt n (show 0 < 2 ^ m by omega)
    have h3 : -(n : Int) - 1 = ((2 ^ m - 1 - n % 2 ^ m : Nat) : Int) + ((2 ^ m : Nat) : Int) * (-((n / 2 ^ m : Nat) : Int) - 1) := by
      have := Nat.div_add_mod n (2 ^ m)
      rw [Int.mul_sub, Int.mul_neg, ← Int.natCast_mul]
      omega
    rw [h3, Int.add_mul_emod_self_left, Int.emod_eq_of_lt] <;> omega
  · obtain ⟨n, rfl⟩ : ∃ n : Nat, x = n := ⟨x.toNat, by omega⟩
    rw [e, band_nat, Nat.and_two_pow_sub_one_eq_mod, e2]
    omega
theorem shr_div (x : Int) (k : Nat) : shr x k = x / 2 ^ k := by unfold shr; rw [Int.fdiv_eq_ediv_of_nonneg _ (Int.le_of_lt (two_pos k))]
theorem lor_add {a c k m : Nat} (hc : c < 2 ^ m) (ha : a % 2 ^ (k + m) < 2 ^ k) : a ||| c * 2 ^ k = a + c * 2 ^ k := by
  have h1 := Nat.div_add_mod a (2 ^ (k + m))
  generalize a / 2 ^ (k + m) = H at h1
  generalize a % 2 ^ (k + m) = l at h1 ha
  subst h1
  have e : 2 ^ (k + m) * H + l = 2 ^ k * (2 ^ m * H) + l := by rw [Nat.pow_add, Nat.mul_assoc]
  rw [e, Nat.two_pow_add_eq_or_of_lt ha, Nat.or_assoc, Nat.or_comm l, ← Nat.or_assoc, Nat.mul_comm c]
  have e3 : 2 ^ k * (2 ^ m * H) ||| 2 ^ k * c = 2 ^ k * (2 ^ m * H ||| c) := by
    rw [Nat.mul_comm, Nat.mul_comm _ c, Nat.mul_comm _ (_ ||| _), ← Nat.shiftLeft_eq, ← Nat.shiftLeft_eq, ← Nat.shiftLeft_eq, Nat.shiftLeft_or_distrib]
  rw [e3, ← Nat.two_pow_add_eq_or_of_lt hc, ← Nat.two_pow_add_eq_or_of_lt ha, ← Nat.two_pow_add_eq_or_of_lt ha, Nat.mul_add]
  omega
theorem bt_nat (n j : Nat) : bt n j = if n.testBit j then 1 else 0 := by
  unfold bt
  rw [Nat.testBit_eq_decide_div_mod_eq]
  have e : ((n : Int) / 2 ^ j % 2) = ((n / 2 ^ j % 2 : Nat) : Int) := by push_cast; rfl
  rw [e]
  by_cases h : n / 2 ^ j % 2 = 1
  · rw [decide_eq_true h, h]; rfl
  · rw [decide_eq_false h]; simp only [Bool.false_eq_true, if_false]; omega
theorem and_two (n j : Nat) : n &&& 2 ^ j = if n.testBit j then 2 ^ j else 0 := by
  apply Nat.eq_of_testBit_eq
  intro i
  rw [Nat.testBit_and, Nat.testBit_two_pow]
  by_cases z : j = i
  · subst z
    cases n.testBit j
    · simp
    · simp [Nat.testBit_two_pow]
  · rw [decide_eq_false z, Bool.and_false]
    split
    · rw [Nat.testBit_two_pow, decide_eq_false z]
    · simp
theorem flip_eq {w : Int} (h0 : 0 ≤ w) (j : Nat) : bxor w (2 ^ j) = w + (1 - 2 * bt w j) * 2 ^ j := by
  obtain ⟨n, rfl⟩ : ∃ n : Nat, w = n := ⟨w.toNat, by omega⟩
  have e : (2 : Int) ^ j = ((2 ^ j : Nat) : Int) := by push_cast; rfl
  show bor (n : Int) (2 ^ j) - band (n : Int) (2 ^ j) = _
  rw [bt_nat, e, bor_nat, band_nat, and_two]
  cases q : n.testBit j with
  | true =>
    have : n ||| 2 ^ j = n := by
      apply Nat.eq_of_testBit_eq
      intro i
      rw [Nat.testBit_or, Nat.testBit_two_pow]
      by_cases z : j = i
      · subst z; rw [q]; rfl
      · rw [decide_eq_false z, Bool.or_false]
    rw [this]
    simp only [if_true]
    omega
  | false =>
    have h2 : n % 2 ^ (j + 1) < 2 ^ j := by
      rw [Nat.pow_succ, Nat.mod_mul]
      have : n / 2 ^ j % 2 = 0 := by
        have := q
        rw [Nat.testBit_eq_decide_div_mod_eq, decide_eq_false_iff_not] at this
        omega
      rw [this, Nat.mul_zero, Nat.add_zero]
      exact Nat.mod_lt _ (Nat.two_pow_pos j)
    have := lor_add (a := n) (c := 1) (k := j) (m := 1) (by decide) h2
    rw [Nat.one_mul] at this
    rw [this]
    simp only [Bool.false_eq_true, if_false]
    omega
theorem flip_bt {w : Int} (h0 : 0 ≤ w) (h1 : w < 2 ^ 32) {j : Nat} (hj : j < 32) : (0 ≤ bxor w (2 ^ j) ∧ bxor w (2 ^ j) < 2 ^ 32) ∧ ∀ i, i < 32 → bt (bxor w (2 ^ j)) i = if i = j then 1 - bt w j else bt w i := by
  have hf : ∀ i, (fun i => if i = j then 1 - bt w j else bt w i) i = 0 ∨ (fun i => if i = j then 1 - bt w j else bt w i) i = 1 := fun i => by
    show (if i = j then 1 - bt w j else bt w i) = 0 ∨ (if i = j then 1 - bt w j else bt w i) = 1
    split
    · rcases bt01 w j with e | e <;> rw [e] <;> simp
    · exact bt01 w i
  have e : bxor w (2 ^ j) = seg (fun i => if i = j then 1 - bt w j else bt w i) 0 32 := by
    rw [seg_flip, if_pos hj, seg_whole h0 h1, flip_eq h0]
    congr 2
    omega
  rw [e]
  exact ⟨seg_range hf 32, fun i hi => bt_seg hf 32 i hi⟩
theorem bt_shift (x : Int) (lo i : Nat) : bt x (lo + i) = bt (x / 2 ^ lo) i := by
  unfold bt
  rw [Int.ediv_ediv_of_nonneg (Int.le_of_lt (two_pos lo)), ← Int.pow_add]
theorem bt_eq {x y : Int} (h : ∀ i, bt x i = bt y i) : x = y := by
  have e : ∀ n, x % 2 ^ n = y % 2 ^ n := fun n => by
    have a := seg_bt x 0 n
    have b := seg_bt y 0 n
    rw [Int.pow_zero, Int.ediv_one] at a b
    rw [← a, ← b, seg_congr fun j _ _ => h j]
  have d := Int.emod_eq_emod_iff_emod_sub_eq_zero.mp (e (x - y).natAbs)
  have z := Int.eq_zero_of_dvd_of_natAbs_lt_natAbs (Int.dvd_of_emod_eq_zero d) (by rw [Int.natAbs_pow]; exact Nat.lt_two_pow_self)
  exact Int.eq_of_sub_eq_zero z
theorem pow_mono {n i : Nat} (h : n ≤ i) : (2 : Int) ^ n ≤ 2 ^ i := by
  have := Int.ofNat_le.mpr (Nat.pow_le_pow_right (n := 2) (by decide) h)
  push_cast at this
  exact this
theorem bt_hi {x : Int} {n i : Nat} (h0 : 0 ≤ x) (h1 : x < 2 ^ n) (h : n ≤ i) : bt x i = 0 := by
  unfold bt
  rw [Int.ediv_eq_zero_of_lt h0 (Int.lt_of_lt_of_le h1 (pow_mono h))]; rfl
theorem bt_neg {x : Int} {n i : Nat} (h0 : x < 0) (h1 : -2 ^ n ≤ x) (h : n ≤ i) : bt x i = 1 := by
  have p := pow_mono h
  have e : (x + 1 * 2 ^ i) / 2 ^ i = 0 := Int.ediv_eq_zero_of_lt (by omega) (by omega)
  rw [Int.add_mul_ediv_right _ _ (Int.ne_of_gt (two_pos i))] at e
  unfold bt
  generalize x / 2 ^ i = q at e ⊢
  have : q = -1 := by omega
  subst this; rfl
theorem bt_zero (i : Nat) : bt 0 i = 0 := bt_hi (n := 0) (Int.le_refl _) (by decide) (Nat.zero_le _)
noncomputable def bv (w : Int) : Nat → Int
  | 0 => 0
  | 1 => 1
  | j + 2 => bt w j
theorem bv01 (w : Int) (a : Nat) : bv w a = 0 ∨ bv w a = 1 := match a with
  | 0 => .inl rfl
  | 1 => .inr rfl
  | j + 2 => bt01 w j
noncomputable abbrev Sy := Option (List Nat × Nat)
noncomputable def Is (w x : Int) : Sy → Prop
  | none => True
  | some (l, t) => ∀ i, bt x i = bv w (l[i]?.getD t)
theorem Is.eq {w x y : Int} {s} (a : Is w x (some s)) (b : Is w y (some s)) : x = y := bt_eq fun i => (a i).trans (b i).symm
noncomputable def yMap (f : List Nat × Nat → List Nat × Nat) (s : Sy) : Sy := match s with
  | none => none
  | some p => some (f p)
theorem Is.map {w x y : Int} {f} {s} (a : Is w x s) (h : ∀ p, Is w x (some p) → Is w y (some (f p))) : Is w y (yMap f s) := match s with
  | none => trivial
  | some p => h p a
noncomputable def yTab (n : Nat) (f : Nat → Nat) : List Nat := (List.range n).map f
theorem tab_lt {n i : Nat} (f : Nat → Nat) (t : Nat) (h : i < n) : (yTab n f)[i]?.getD t = f i := by
  unfold yTab
  rw [List.getElem?_map, List.getElem?_range h]; rfl
theorem tab_ge {n i : Nat} (f : Nat → Nat) (t : Nat) (h : n ≤ i) : (yTab n f)[i]?.getD t = t := by
  unfold yTab
  rw [List.getElem?_map, List.getElem?_eq_none (by rw [List.length_range]; exact h)]; rfl
theorem is_tab {w x : Int} {n : Nat} (f : Nat → Nat) (h0 : 0 ≤ x) (h1 : x < 2 ^ n) (h : ∀ i, i < n → bt x i = bv w (f i)) : Is w x (some (yTab n f, 0)) := fun i => by
  rcases Nat.lt_or_ge i n with q | q
  · rw [tab_lt f 0 q]; exact h i q
  · rw [tab_ge f 0 q]; exact bt_hi h0 h1 q
noncomputable def yShr (k : Nat) : Sy → Sy := yMap fun p => (p.1.drop k, p.2)
theorem is_shr {w x : Int} {s : Sy} (k : Nat) (h : Is w x s) : Is w (shr x k) (yShr k s) := h.map fun p h i => by
  rw [shr_div, ← bt_shift, List.getElem?_drop]; exact h _
noncomputable def yAnd (m : Nat) : Sy → Sy := yMap fun p => (yTab m fun i => p.1[i]?.getD p.2, 0)
theorem bt_low (x : Int) {n i : Nat} (h : i < n) : bt (x % 2 ^ n) i = bt x i := by
  have := bt_seg (f := bt x) (bt01 x) n i h
  rw [seg_bt, Int.pow_zero, Int.ediv_one] at this
  exact this
theorem is_and {w x : Int} {s : Sy} (m : Nat) (h : Is w x s) : Is w (band x (2 ^ m - 1)) (yAnd m s) := h.map fun p h => by
  rw [band_mod]
  exact is_tab _ (Int.emod_nonneg _ (Int.ne_of_gt (two_pos m))) (Int.emod_lt_of_pos _ (two_pos m)) fun i q => by rw [bt_low x q]; exact h i
noncomputable def yShl (k : Nat) : Sy → Sy := yMap fun p => (List.replicate k 0 ++ p.1, p.2)
theorem bt_shl (x : Int) (k i : Nat) : bt (x * 2 ^ k) i = if i < k then 0 else bt x (i - k) := by
  split
  · rename_i h
    have e : (2 : Int) ^ k = 2 ^ (k - i - 1) * 2 * 2 ^ i := by rw [← Int.pow_succ, ← Int.pow_add]; congr 1; omega
    unfold bt
    rw [e, ← Int.mul_assoc, Int.mul_ediv_cancel _ (Int.ne_of_gt (two_pos i)), ← Int.mul_assoc, Int.mul_emod_left]
  · rename_i h
    obtain ⟨j, rfl⟩ := Nat.exists_eq_add_of_le (Nat.le_of_not_lt h)
    rw [bt_shift, Int.mul_ediv_cancel _ (Int.ne_of_gt (two_pos k)), Nat.add_sub_cancel_left]
theorem is_shl {w x : Int} {s : Sy} (k : Nat) (h : Is w x s) : Is w (x * 2 ^ k) (yShl k s) := h.map fun p h i => by
  rw [bt_shl, List.getElem?_append, List.length_replicate]
  split
  · rename_i q
    rw [List.getElem?_replicate, if_pos q]; rfl
  · exact h _
theorem Is.top {w x : Int} {l t} (h : Is w x (some (l, t))) : x / 2 ^ l.length = - bv w t := bt_eq fun i => by
  rw [← bt_shift, h, List.getElem?_eq_none (Nat.le_add_right _ _)]
  rcases bv01 w t with q | q
  · rw [show bv w ((none : Option Nat).getD t) = 0 from q, q]; exact (bt_zero i).symm
  · rw [show bv w ((none : Option Nat).getD t) = 1 from q, q]; exact (bt_neg (n := 0) (by decide) (by decide) (Nat.zero_le i)).symm
theorem Is.rng {w x : Int} {l t} (h : Is w x (some (l, t))) : -(bv w t * 2 ^ l.length) ≤ x ∧ x < 2 ^ l.length - bv w t * 2 ^ l.length := by
  have e := Int.mul_ediv_add_emod x (2 ^ l.length)
  have a := Int.emod_nonneg x (Int.ne_of_gt (two_pos l.length))
  have b := Int.emod_lt_of_pos x (two_pos l.length)
  rw [h.top, Int.mul_neg, Int.mul_comm] at e
  omega
theorem Is.nn {w x : Int} {l} (h : Is w x (some (l, 0))) : 0 ≤ x ∧ x < 2 ^ l.length := by
  have := h.rng
  rw [show bv w 0 = 0 from rfl, Int.zero_mul] at this
  omega
noncomputable def ySgn : Sy → Sy := yMap fun p => (p.1, if p.2 = 0 then 33 else p.2)
theorem is_sgn {w x : Int} {l : List Nat} {n : Nat} {c : Bool} (hn : l.length = n) (hc : c = (bt w 31 != 0)) (h : Is w x (some (l, 0))) : Is w (if c then x - 2 ^ n else x) (some (l, 33)) := fun i => by
  subst hn
  obtain ⟨h0, h1⟩ := h.nn
  have e : bt (if c then x - 2 ^ l.length else x) i = if i < l.length then bt x i else bt w 31 := by
    rcases bt01 w 31 with q | q
    · rw [hc, q, if_neg (by decide)]
      split
      · rfl
      · rename_i z; exact bt_hi h0 h1 (Nat.le_of_not_lt z)
    · rw [hc, q, if_pos (by decide)]
      split
      · rename_i z
        have e : (2 : Int) ^ l.length = 2 ^ (l.length - i - 1) * 2 * 2 ^ i := by rw [← Int.pow_succ, ← Int.pow_add]; congr 1; omega
        unfold bt
        rw [Int.sub_eq_add_neg, e, ← Int.neg_mul, Int.add_mul_ediv_right _ _ (Int.ne_of_gt (two_pos i)), ← Int.neg_mul, Int.add_mul_emod_self_right]
      · rename_i z; exact bt_neg (by omega) (by omega) (Nat.le_of_not_lt z)
  rw [e]
  split
  · rename_i z
    rw [h i, List.getElem?_eq_getElem z]; rfl
  · rename_i z
    rw [List.getElem?_eq_none (Nat.le_of_not_lt z)]; rfl
noncomputable def yOr (s u : Sy) : Sy := match s, u with
  | some (l, 0), some (m, 0) => if (List.range (max l.length m.length)).all (fun i => l[i]?.getD 0 == 0 || m[i]?.getD 0 == 0) then some (yTab (max l.length m.length) fun i => l[i]?.getD 0 + m[i]?.getD 0, 0) else none
  | _, _ => none
theorem bt_or {x y : Int} (h0 : 0 ≤ x) (h1 : 0 ≤ y) (i : Nat) (z : bt x i = 0 ∨ bt y i = 0) : bt (bor x y) i = bt x i + bt y i := by
  obtain ⟨n, rfl⟩ : ∃ n : Nat, x = n := ⟨x.toNat, by omega⟩
  obtain ⟨m, rfl⟩ : ∃ n : Nat, y = n := ⟨y.toNat, by omega⟩
  rw [bor_nat, bt_nat, bt_nat, bt_nat, Nat.testBit_or]
  rw [bt_nat, bt_nat] at z
  revert z
  cases n.testBit i <;> cases m.testBit i <;> decide
theorem or_lt {x y : Int} {n : Nat} (h0 : 0 ≤ x) (h1 : 0 ≤ y) (a : x < 2 ^ n) (b : y < 2 ^ n) : 0 ≤ bor x y ∧ bor x y < 2 ^ n := by
  obtain ⟨k, rfl⟩ : ∃ n : Nat, x = n := ⟨x.toNat, by omega⟩
  obtain ⟨m, rfl⟩ : ∃ n : Nat, y = n := ⟨y.toNat, by omega⟩
  rw [bor_nat]
  exact ⟨Int.natCast_nonneg _, by exact_mod_cast Nat.or_lt_two_pow (by exact_mod_cast a) (by exact_mod_cast b)⟩
theorem is_or {w x y : Int} {s u : Sy} (h : Is w x s) (k : Is w y u) : Is w (bor x y) (yOr s u) := by
  unfold yOr
  split
  · rename_i l m
    split
    · rename_i c
      obtain ⟨h0, h1⟩ := h.nn
      obtain ⟨k0, k1⟩ := k.nn
      obtain ⟨o0, o1⟩ := or_lt h0 k0 (Int.lt_of_lt_of_le h1 (pow_mono (Nat.le_max_left l.length m.length))) (Int.lt_of_lt_of_le k1 (pow_mono (Nat.le_max_right l.length m.length)))
      refine is_tab _ o0 o1 fun i q => ?_
      have z := List.all_eq_true.mp c i (List.mem_range.mpr q)
      have hi := h i
      have ki := k i
      rw [Bool.or_eq_true, beq_iff_eq, beq_iff_eq] at z
      rcases z with z | z
      · rw [z] at hi ⊢
        rw [bt_or h0 k0 i (.inl hi), hi, ki, Nat.zero_add]; exact Int.zero_add _
      · rw [z] at ki ⊢
        rw [bt_or h0 k0 i (.inr ki), hi, ki]; exact Int.add_zero _
    · trivial
  · trivial
theorem is_word {w : Int} (w0 : 0 ≤ w) (w1 : w < 2 ^ 32) : Is w w (some (yTab 32 (· + 2), 0)) := is_tab _ w0 w1 fun _ _ => rfl
theorem is_con (w : Int) {f : Int} (w0 : 0 ≤ f) (w1 : f < 2 ^ 32) : Is w f (some (yTab 32 fun i => (bt f i).toNat, 0)) := is_tab _ w0 w1 fun i _ => by
  rcases bt01 f i with e | e <;> rw [e] <;> rfl
theorem is_zero (w : Int) : Is w 0 (some ([], 0)) := fun i => bt_zero i
theorem ite_rel {α β : Type} {R : α → β → Prop} {c : Prop} [Decidable c] {a b : α} {x y : β} (h1 : R a x) (h2 : R b y) : R (if c then a else b) (if c then x else y) := by
  split
  · exact h1
  · exact h2
noncomputable def dsum (cf : Nat → Int) (w : Int) : Nat → Int
  | 0 => 0
  | k + 1 => dsum cf w k + cf k * bt w (31 - k)
theorem dsum_congr {f g : Nat → Int} {w : Int} : ∀ n, (∀ k, k < n → f k = g k) → dsum f w n = dsum g w n
  | 0, _ => rfl
  | n + 1, h => by
    unfold dsum
    rw [dsum_congr n fun k q => h k (by omega), h n (by omega)]
theorem dsum_bits {f : Nat → Int} {w v : Int} : ∀ n, n ≤ 32 → (∀ k, k < n → f k = 0 ∨ bt w (31 - k) = bt v (31 - k)) → dsum f w n = dsum f v n
  | 0, _, _ => rfl
  | n + 1, hn, h => by
    unfold dsum
    rw [dsum_bits n (by omega) fun k q => h k (by omega)]
    rcases h n (by omega) with e | e
    · rw [e, Int.zero_mul, Int.zero_mul]
    · rw [e]
theorem dsum_add (f g : Nat → Int) (w : Int) : ∀ n, dsum (fun k => f k + g k) w n = dsum f w n + dsum g w n
  | 0 => rfl
  | n + 1 => by
    unfold dsum
    rw [dsum_add f g w n, Int.add_mul]; omega
theorem dsum_z (w : Int) : ∀ n, dsum (fun _ => 0) w n = 0
  | 0 => rfl
  | n + 1 => by
    unfold dsum
    rw [dsum_z w n, Int.zero_mul]; rfl
noncomputable def okc (a : Nat) : Bool := a == 0 || (decide (2 ≤ a) && decide (a < 34))
noncomputable def one (a : Nat) (p : Int) (k : Nat) : Int := if a = 33 - k then p else 0
theorem dsum_one {a : Nat} (p w : Int) (h : okc a = true) : dsum (one a p) w 32 = bv w a * p := by
  have z : ∀ n, n ≤ 32 → dsum (one a p) w n = if 33 - a < n ∧ a ≠ 0 then bv w a * p else 0 := by
    intro n
    induction n with
    | zero => intro _; rfl
    | succ n ih =>
      intro hn
      unfold dsum
      rw [ih (by omega)]
      unfold one okc at *
      by_cases q : a = 33 - n
      · subst q
        rw [if_pos rfl, if_neg (by omega), if_pos (by omega), Int.zero_add, Int.mul_comm]
        congr 1
        rw [show 33 - n = 31 - n + 2 by omega]; rfl
      · rw [if_neg q, Int.zero_mul, Int.add_zero]
        by_cases c : 33 - a < n ∧ a ≠ 0
        · rw [if_pos c, if_pos (by omega)]
        · rw [if_neg c, if_neg (by simp at h; omega)]
  rw [z 32 (Nat.le_refl _)]
  unfold okc at h
  by_cases c : a = 0
  · subst c; rw [if_neg (by omega)]; exact (Int.zero_mul p).symm
  · rw [if_pos (by simp at h; omega)]
noncomputable def coL : List Nat → Int → Nat → Int
  | [], _, _ => 0
  | a :: l, p, k => one a p k + coL l (2 * p) k
theorem Is.half {w x : Int} {a l t} (h : Is w x (some (a :: l, t))) : Is w (x / 2) (some (l, t)) ∧ x = 2 * (x / 2) + bv w a := by
  constructor
  · intro i
    have := h (1 + i)
    rw [bt_shift, Int.pow_one, Nat.add_comm 1 i] at this
    exact this
  · have := h 0
    unfold bt at this
    rw [Int.pow_zero, Int.ediv_one] at this
    rw [show bv w a = bv w ((a :: l)[0]?.getD t) from rfl, ← this]; omega
theorem Is.sum {w : Int} {t : Nat} (ht : okc t = true) : ∀ (l : List Nat) (p : Int) {x : Int}, Is w x (some (l, t)) → l.all okc = true → x * p = dsum (fun k => coL l p k + one t (-(2 ^ l.length * p)) k) w 32
  | [], p, x, h, _ => by
    have := h.top
    rw [List.length_nil, Int.pow_zero, Int.ediv_one] at this
    rw [dsum_add, dsum_one _ w ht, this]
    show -bv w t * p = dsum (fun _ => 0) w 32 + bv w t * -(1 * p)
    rw [dsum_z, Int.one_mul, Int.mul_neg, Int.neg_mul]; omega
  | a :: l, p, x, h, c => by
    rw [List.all_cons, Bool.and_eq_true] at c
    obtain ⟨h1, h2⟩ := h.half
    have ih := Is.sum ht l (2 * p) h1 c.2
    have e : x * p = bv w a * p + x / 2 * (2 * p) := by
      conv => lhs; rw [h2, Int.add_mul]
      rw [Int.mul_comm 2 (x / 2), Int.mul_assoc]; omega
    rw [e, ih, ← dsum_one p w c.1, ← dsum_add]
    refine dsum_congr 32 fun k _ => ?_
    show one a p k + (coL l (2 * p) k + one t (-(2 ^ l.length * (2 * p))) k) = one a p k + coL l (2 * p) k + one t (-(2 ^ (l.length + 1) * p)) k
    rw [Int.pow_succ, Int.mul_assoc]; omega
noncomputable def pLow (j : Nat) : Bool := decide (j < 7)
noncomputable def pThird (j : Nat) : Bool := decide (12 ≤ j) && decide (j < 15)
noncomputable def cl (r : SR) : Nat := if kUJ r then 0 else if kThird r then 1 else if kSys r then 4 else if r.kind == sO "flush" then 3 else 2
noncomputable def fixP : Nat → Nat → Bool
  | 0, j => pLow j
  | 1, j => pLow j || pThird j
  | 2, j => pLow j || pThird j || decide (25 ≤ j)
  | 3, j => decide (j < 15) || decide (25 ≤ j)
  | _, _ => true
noncomputable def M (r : SR) (w : Int) : Prop := ∀ j, j < 32 → fixP (cl r) j = true → bt w j = bt r.fixed j
theorem nodup_inj {α β : Type} {l : List α} {f : α → β} (h : (l.map f).Nodup) {a b : α} (ha : a ∈ l) (hb : b ∈ l) (e : f a = f b) : a = b := by
  induction l with
  | nil => cases ha
  | cons x l ih =>
    rw [List.map_cons, List.nodup_cons] at h
    rcases List.mem_cons.mp ha with rfl | ha'
    · rcases List.mem_cons.mp hb with rfl | hb'
      · rfl
      · exact absurd (e ▸ List.mem_map_of_mem (f := f) hb') h.1
    · rcases List.mem_cons.mp hb with rfl | hb'
      · exact absurd (e ▸ List.mem_map_of_mem (f := f) ha') h.1
      · exact ih h.2 ha' hb'
theorem find_uniq {α : Type} {l : List α} {p : α → Bool} {a : α} (ha : a ∈ l) (hp : p a = true) (hu : ∀ b ∈ l, p b = true → b = a) : l.find? p = some a := by
  cases q : l.find? p with
  | none => exact absurd hp (by simpa using List.find?_eq_none.mp q a ha)
  | some b => rw [hu b (List.mem_of_find?_eq_some q) (List.find?_some q)]
theorem find_no {α : Type} {l : List α} {p : α → Bool} (hu : ∀ b ∈ l, p b = false) : l.find? p = none :=
  List.find?_eq_none.mpr fun b hb => by rw [hu b hb]; decide
theorem bt_and {x m : Int} (x0 : 0 ≤ x) (m0 : 0 ≤ m) (j : Nat) : bt (band x m) j = bt x j * bt m j := by
  obtain ⟨n, rfl⟩ : ∃ n : Nat, x = n := ⟨x.toNat, by omega⟩
  obtain ⟨k, rfl⟩ : ∃ n : Nat, m = n := ⟨m.toNat, by omega⟩
  rw [band_nat, bt_nat, bt_nat, bt_nat, Nat.testBit_and]
  cases n.testBit j <;> cases k.testBit j <;> rfl
theorem band_bits {x y m : Int} (x0 : 0 ≤ x) (y0 : 0 ≤ y) (m0 : 0 ≤ m) (h : band x m = band y m) {j : Nat} (e : bt m j = 1) : bt x j = bt y j := by
  have := congrArg (bt · j) h
  rw [bt_and x0 m0, bt_and y0 m0, e, Int.mul_one, Int.mul_one] at this
  exact this
noncomputable def sub (m : Int) (c : Nat) : Bool := (List.range 32).all fun j => bt m j == 0 || fixP c j
noncomputable def sup (m : Int) (r : SR) : Bool := (List.range 32).all fun j => !fixP (cl r) j || (bt m j == 1 || (r.kind == sO "flush" && decide (7 ≤ j) && decide (j < 12) && bt r.fixed j == 0))
theorem fix_lt : SH.all (fun r => decide (0 ≤ r.fixed) && decide (r.fixed < 2 ^ 32)) = true := by decide +kernel
theorem fixed_lt {r : SR} (h : r ∈ SH) : 0 ≤ r.fixed ∧ r.fixed < 2 ^ 32 := by
  have := List.all_eq_true.mp fix_lt r h
  rw [Bool.and_eq_true, decide_eq_true_eq, decide_eq_true_eq] at this
  exact this
theorem band_of_M {r : SR} (hr : r ∈ SH) {w m : Int} (w0 : 0 ≤ w) (m0 : 0 ≤ m) (m1 : m < 2 ^ 32) (h : M r w) (s : sub m (cl r) = true) : band w m = band r.fixed m := bt_eq fun i => by
  rw [bt_and w0 m0, bt_and (fixed_lt hr).1 m0]
  rcases Nat.lt_or_ge i 32 with q | q
  · have := List.all_eq_true.mp s i (List.mem_range.mpr q)
    rw [Bool.or_eq_true, beq_iff_eq] at this
    rcases this with z | z
    · rw [z, Int.mul_zero, Int.mul_zero]
    · rw [h i q z]
  · rw [bt_hi m0 m1 q, Int.mul_zero, Int.mul_zero]
theorem fRd_bt (w : Int) (i : Nat) : bt (fRd w) i = if i < 5 then bt w (7 + i) else 0 := by
  have e : fRd w = w / 2 ^ 7 % 2 ^ 5 := by unfold fRd; rw [shr_div]; exact band_mod _ 5
  rw [e]
  split
  · rename_i h; rw [bt_low _ h, bt_shift]
  · rename_i h; exact bt_hi (n := 5) (Int.emod_nonneg _ (by decide)) (Int.emod_lt_of_pos _ (by decide)) (Nat.le_of_not_lt h)
theorem flush_bad {r : SR} {w : Int} : flushBad r w = ((r.kind == sO "flush") && (fRd w != 0)) := rfl
theorem M_of_band {r : SR} (hr : r ∈ SH) {w m : Int} (w0 : 0 ≤ w) (m0 : 0 ≤ m) (h : band r.fixed m = band w m) (s : sup m r = true) (f : flushBad r w = false) : M r w := fun j hj p => by
  have := List.all_eq_true.mp s j (List.mem_range.mpr hj)
  rw [p, Bool.not_true, Bool.false_or, Bool.or_eq_true, beq_iff_eq] at this
  rcases this with z | z
  · exact (band_bits (fixed_lt hr).1 w0 m0 h z).symm
  · simp only [Bool.and_eq_true, decide_eq_true_eq, beq_iff_eq] at z
    obtain ⟨⟨⟨z1, z2⟩, z3⟩, z4⟩ := z
    rw [flush_bad, beq_iff_eq.mpr z1, Bool.true_and, bne_eq_false_iff_eq] at f
    have g := fRd_bt w (j - 7)
    rw [f, bt_zero, if_pos (by omega), show 7 + (j - 7) = j by omega] at g
    rw [z4, ← g]
noncomputable def tabF (r : SR) : Bool := if kUJ r then r.op == band r.fixed 127 && sup 127 r && !(r.kind == sO "flush") else if kThird r then r.fixed == band r.fixed 28799 && sup 28799 r && !(r.kind == sO "flush") else if kSev r then r.fixed == band r.fixed 4261441663 && sup 4261441663 r else r.fixed == r.op
theorem SH_tab : SH.all tabF = true := by decide +kernel
noncomputable def noOp (r : SR) : Bool := sub 127 (cl r) && (kUJ r || (sub 28799 (cl r) && SH.all fun q => !kUJ q || q.op != band r.fixed 127))
theorem SH_noOp : SH.all noOp = true := by decide +kernel
noncomputable def noThird (r : SR) : Bool := kUJ r || kThird r || (sub 4261441663 (cl r) && SH.all fun q => !kThird q || q.fixed != band r.fixed 28799)
theorem SH_noThird : SH.all noThird = true := by decide +kernel
theorem SH_ex : SH.all (fun r => (!kThird r || !kUJ r) && (!kSev r || (!kUJ r && !kThird r)) && (!kSys r || (!kUJ r && !kThird r && !kSev r)) && (kUJ r || kThird r || kSev r || kSys r)) = true := by decide +kernel
theorem SH_fl : SH.all (fun r => !(r.kind == sO "flush") || (cl r == 3 && (bt r.fixed 7 == 0 && bt r.fixed 8 == 0 && bt r.fixed 9 == 0 && bt r.fixed 10 == 0 && bt r.fixed 11 == 0))) = true := by decide +kernel
theorem SH_sys : SH.all (fun r => !kSys r || cl r == 4) = true := by decide +kernel
theorem nd_op : ((SH.filter kUJ).map (·.op)).Nodup := by decide +kernel
theorem nd_third : ((SH.filter kThird).map (·.fixed)).Nodup := by decide +kernel
theorem nd_sev : ((SH.filter kSev).map (·.fixed)).Nodup := by decide +kernel
theorem nd_addr : (SH.map (·.addr)).Nodup := by decide +kernel
theorem sys_find : SH.all (fun r => !kSys r || ((findS r.fixed).map (·.addr) == some r.addr)) = true := by decide +kernel
theorem not_flush {r : SR} {w : Int} (h : (!(r.kind == sO "flush")) = true) : flushBad r w = false := by
  rw [Bool.not_eq_true'] at h
  rw [flush_bad, h]; rfl
theorem M_of_find {w : Int} (w0 : 0 ≤ w) {r : SR} (h : findS w = some r) : r ∈ SH ∧ M r w := by
  unfold findS at h
  split at h
  · rename_i q e
    cases h
    have hm := List.mem_filter.mp (List.mem_of_find?_eq_some e)
    have hp : r.op = band w 127 := by simpa using List.find?_some e
    have t := List.all_eq_true.mp SH_tab r hm.1
    unfold tabF at t
    rw [hm.2, if_pos rfl, Bool.and_eq_true, Bool.and_eq_true, beq_iff_eq] at t
    exact ⟨hm.1, M_of_band hm.1 w0 (by decide) (t.1.1.symm.trans hp) t.1.2 (not_flush t.2)⟩
  · split at h
    · rename_i q e
      cases h
      have hm := List.mem_filter.mp (List.mem_of_find?_eq_some e)
      have hp : r.fixed = band w 28799 := by simpa using List.find?_some e
      have t := List.all_eq_true.mp SH_tab r hm.1
      have x := List.all_eq_true.mp SH_ex r hm.1
      simp only [hm.2, Bool.and_eq_true, Bool.not_true, Bool.false_or, Bool.not_eq_true'] at x
      unfold tabF at t
      rw [x.1.1.1, hm.2, if_neg (by decide), if_pos rfl, Bool.and_eq_true, Bool.and_eq_true, beq_iff_eq] at t
      exact ⟨hm.1, M_of_band hm.1 w0 (by decide) (t.1.1.symm.trans hp) t.1.2 (not_flush t.2)⟩
    · split at h
      · rename_i q e
        split at h
        · cases h
        · rename_i nb
          cases h
          have hm := List.mem_filter.mp (List.mem_of_find?_eq_some e)
          have hp : r.fixed = band w 4261441663 := by simpa using List.find?_some e
          have t := List.all_eq_true.mp SH_tab r hm.1
          have x := List.all_eq_true.mp SH_ex r hm.1
          simp only [hm.2, Bool.and_eq_true, Bool.not_true, Bool.false_or, Bool.not_eq_true'] at x
          unfold tabF at t
          rw [x.1.1.2.1, x.1.1.2.2, hm.2, if_neg (by decide), if_neg (by decide), if_pos rfl, Bool.and_eq_true, beq_iff_eq] at t
          exact ⟨hm.1, M_of_band hm.1 w0 (by decide) (t.1.symm.trans hp) t.2 (Bool.eq_false_iff.mpr nb)⟩
      · have hm := List.mem_filter.mp (List.mem_of_find?_eq_some h)
        have hp : r.op = w := by simpa using List.find?_some h
        have t := List.all_eq_true.mp SH_tab r hm.1
        have x := List.all_eq_true.mp SH_ex r hm.1
        simp only [hm.2, Bool.and_eq_true, Bool.not_true, Bool.false_or, Bool.not_eq_true'] at x
        unfold tabF at t
        rw [x.1.2.1.1, x.1.2.1.2, x.1.2.2, if_neg (by decide), if_neg (by decide), if_neg (by decide), beq_iff_eq] at t
        exact ⟨hm.1, fun j _ _ => by rw [t, hp]⟩
theorem find_of_M {w : Int} (w0 : 0 ≤ w) (w1 : w < 2 ^ 32) {r : SR} (hr : r ∈ SH) (h : M r w) : findS w = some r := by
  have t := List.all_eq_true.mp SH_tab r hr
  have x := List.all_eq_true.mp SH_ex r hr
  have n1 := List.all_eq_true.mp SH_noOp r hr
  have n2 := List.all_eq_true.mp SH_noThird r hr
  unfold tabF at t
  unfold noOp at n1
  unfold noThird at n2
  rw [Bool.and_eq_true] at n1
  have b1 := band_of_M hr w0 (by decide) (by decide) h n1.1
  unfold findS
  cases a : kUJ r with
  | true =>
    rw [a, if_pos rfl, Bool.and_eq_true, Bool.and_eq_true, beq_iff_eq] at t
    have key := t.1.1.trans b1.symm
    have : findOp w = some r := find_uniq (List.mem_filter.mpr ⟨hr, a⟩) (decide_eq_true key) fun q hq hp => nodup_inj (f := (·.op)) nd_op hq (List.mem_filter.mpr ⟨hr, a⟩) ((of_decide_eq_true hp).trans key.symm)
    rw [this]
  | false =>
    rw [a, Bool.false_or, Bool.and_eq_true] at n1
    have b2 := band_of_M hr w0 (by decide) (by decide) h n1.2.1
    have o1 : findOp w = none := find_no fun q hq => by
      have hm := List.mem_filter.mp hq
      have := List.all_eq_true.mp n1.2.2 q hm.1
      rw [hm.2, Bool.not_true, Bool.false_or, bne_iff_ne] at this
      rw [decide_eq_false_iff_not]
      show ¬ q.op = band w 127
      rw [b1]; exact this
    rw [o1]
    rw [a, if_neg (by decide)] at t
    cases b : kThird r with
    | true =>
      rw [b, if_pos rfl, Bool.and_eq_true, Bool.and_eq_true, beq_iff_eq] at t
      have key := t.1.1.trans b2.symm
      have : findThird w = some r := find_uniq (List.mem_filter.mpr ⟨hr, b⟩) (decide_eq_true key) fun q hq hp => nodup_inj (f := (·.fixed)) nd_third hq (List.mem_filter.mpr ⟨hr, b⟩) ((of_decide_eq_true hp).trans key.symm)
      rw [this]
    | false =>
      rw [a, b, Bool.false_or, Bool.false_or, Bool.and_eq_true] at n2
      have b3 := band_of_M hr w0 (by decide) (by decide) h n2.1
      have o2 : findThird w = none := find_no fun q hq => by
        have hm := List.mem_filter.mp hq
        have := List.all_eq_true.mp n2.2 q hm.1
        rw [hm.2, Bool.not_true, Bool.false_or, bne_iff_ne] at this
        rw [decide_eq_false_iff_not]
        show ¬ q.fixed = band w 28799
        rw [b2]; exact this
      rw [o2]
      rw [b, if_neg (by decide)] at t
      cases c : kSev r with
      | true =>
        rw [c, if_pos rfl, Bool.and_eq_true, beq_iff_eq] at t
        have key := t.1.trans b3.symm
        have : findSev w = some r := find_uniq (List.mem_filter.mpr ⟨hr, c⟩) (decide_eq_true key) fun q hq hp => nodup_inj (f := (·.fixed)) nd_sev hq (List.mem_filter.mpr ⟨hr, c⟩) ((of_decide_eq_true hp).trans key.symm)
        rw [this]
        have fl : flushBad r w = false := by
          rw [flush_bad]
          cases hk : (r.kind == sO "flush") with
          | false => rfl
          | true =>
            have f := List.all_eq_true.mp SH_fl r hr
            rw [hk, Bool.not_true, Bool.false_or, Bool.and_eq_true, beq_iff_eq] at f
            obtain ⟨f1, f2⟩ := f
            simp only [Bool.and_eq_true, beq_iff_eq] at f2
            obtain ⟨⟨⟨⟨z7, z8⟩, z9⟩, z10⟩, z11⟩ := f2
            have g : ∀ j, j < 32 → fixP 3 j = true → bt w j = bt r.fixed j := fun j hj p => h j hj (by rw [f1]; exact p)
            rw [Bool.true_and, bne_eq_false_iff_eq]
            refine bt_eq fun i => ?_
            rw [fRd_bt, bt_zero]
            match i with
            | 0 => exact (g 7 (by decide) rfl).trans z7
            | 1 => exact (g 8 (by decide) rfl).trans z8
            | 2 => exact (g 9 (by decide) rfl).trans z9
            | 3 => exact (g 10 (by decide) rfl).trans z10
            | 4 => exact (g 11 (by decide) rfl).trans z11
            | i + 5 => exact if_neg (by omega)
        show (if flushBad r w then none else some r) = some r
        rw [fl]; rfl
      | false =>
        rw [a, b, c] at x
        have d : kSys r = true := (Bool.and_eq_true_iff.mp x).2
        have f := List.all_eq_true.mp SH_sys r hr
        rw [d, Bool.not_true, Bool.false_or, beq_iff_eq] at f
        have e : w = r.fixed := by
          rw [← seg_whole w0 w1, ← seg_whole (fixed_lt hr).1 (fixed_lt hr).2]
          exact seg_congr fun j _ hj => h j (by omega) (by rw [f]; rfl)
        have y := List.all_eq_true.mp sys_find r hr
        rw [d, Bool.not_true, Bool.false_or, beq_iff_eq, ← e] at y
        obtain ⟨q, e1, e2⟩ := Option.map_eq_some_iff.mp y
        have hq := (M_of_find w0 e1).1
        unfold findS at e1
        rw [o1, o2] at e1
        rw [nodup_inj nd_addr hq hr e2] at e1
        exact e1
noncomputable def coef (bs : Bits) (what : Str) (k : Nat) : Int := match bs[k]? with | some p => if p.1 = what then p.2 else 0 | none => 0
theorem bitOf_bt (w : Int) (k : Nat) : bitOf w k = bt w (31 - k) := by
  unfold bitOf bt
  rw [Int.fdiv_eq_ediv_of_nonneg _ (Int.le_of_lt (two_pos _)), Int.fmod_eq_emod_of_nonneg _ (by decide)]
theorem getF_rd (i : Ins) : getF i (sO "rd") = i.rd := by kernel_rfl
theorem getF_rs1 (i : Ins) : getF i (sO "rs1") = i.rs1 := by kernel_rfl
theorem getF_rs2 (i : Ins) : getF i (sO "rs2") = i.rs2 := by kernel_rfl
theorem getF_imm (i : Ins) : getF i (sO "imm") = i.imm := by kernel_rfl
theorem getF_csr (i : Ins) : getF i (sO "csr") = i.csr := by kernel_rfl
theorem five_ne : (∀ a ∈ five, a ≠ sO "") := by decide +kernel
theorem five_nd : five.Nodup := by decide +kernel
theorem mem_five {a : Str} (h : a ∈ five) : a = sO "rd" ∨ a = sO "rs1" ∨ a = sO "rs2" ∨ a = sO "imm" ∨ a = sO "csr" := by
  unfold five at h
  simpa using h
theorem set_rd (i : Ins) (v : Int) : setI i (sO "rd") v = ⟨i.nm, v, i.rs1, i.rs2, i.imm, i.csr⟩ := by kernel_rfl
theorem set_rs1 (i : Ins) (v : Int) : setI i (sO "rs1") v = ⟨i.nm, i.rd, v, i.rs2, i.imm, i.csr⟩ := by kernel_rfl
theorem set_rs2 (i : Ins) (v : Int) : setI i (sO "rs2") v = ⟨i.nm, i.rd, i.rs1, v, i.imm, i.csr⟩ := by kernel_rfl
theorem set_imm (i : Ins) (v : Int) : setI i (sO "imm") v = ⟨i.nm, i.rd, i.rs1, i.rs2, v, i.csr⟩ := by kernel_rfl
theorem set_csr (i : Ins) (v : Int) : setI i (sO "csr") v = ⟨i.nm, i.rd, i.rs1, i.rs2, i.imm, v⟩ := by kernel_rfl
theorem getF_set {x y : Str} (hx : x ∈ five) (hy : y ∈ five) (i : Ins) (v : Int) : getF (setI i x v) y = if x = y then v else getF i y := by
  rcases mem_five hx with rfl | rfl | rfl | rfl | rfl <;> rcases mem_five hy with rfl | rfl | rfl | rfl | rfl <;> first
    | rw [if_pos rfl]; kernel_rfl
    | (rw [if_neg (by decide +kernel)]; kernel_rfl)
theorem ins_ext {i j : Ins} (hn : i.nm = j.nm) (h : ∀ x ∈ five, getF i x = getF j x) : i = j := by
  have a := h (sO "rd") (by decide +kernel)
  have b := h (sO "rs1") (by decide +kernel)
  have c := h (sO "rs2") (by decide +kernel)
  have d := h (sO "imm") (by decide +kernel)
  have e := h (sO "csr") (by decide +kernel)
  rw [getF_rd, getF_rd] at a
  rw [getF_rs1, getF_rs1] at b
  rw [getF_rs2, getF_rs2] at c
  rw [getF_imm, getF_imm] at d
  rw [getF_csr, getF_csr] at e
  cases i; cases j
  simp only [Ins.mk.injEq]
  exact ⟨hn, a, b, c, d, e⟩
theorem getF_zero {nm : Str} {x : Str} (h : x ∈ five) : getF ⟨nm, 0, 0, 0, 0, 0⟩ x = 0 := by
  rcases mem_five h with rfl | rfl | rfl | rfl | rfl <;> kernel_rfl
theorem getF_drawn {bs : Bits} (B : BitsOk bs) {what : Str} (hw : what ∈ five) (w : Int) (nm : Str) : ∀ n, getF (drawn bs w nm n) what = dsum (coef bs what) w n
  | 0 => getF_zero hw
  | n + 1 => by
    have ih := getF_drawn B hw w nm n
    show getF (drawStep bs w (drawn bs w nm n) n) what = dsum (coef bs what) w n + coef bs what n * bt w (31 - n)
    rw [← ih]
    generalize drawn bs w nm n = i
    unfold drawStep coef
    cases q : bs[n]? with
    | none => simp only [Int.zero_mul, Int.add_zero]
    | some p =>
      obtain ⟨x, v⟩ := p
      simp only
      rw [bitOf_bt]
      rcases B.what _ (List.mem_of_getElem? q) with e | e
      · have e : x = sO "" := e
        subst e
        rw [if_neg (by simp), if_neg (fun z => five_ne _ hw z.symm), Int.zero_mul, Int.add_zero]
      · have e : x ∈ five := e
        have hne := five_ne _ e
        rw [show (x == sO "") = false from beq_eq_false_iff_ne.mpr hne]
        rcases bt01 w (31 - n) with b | b
        · rw [b, if_neg (by decide), Int.mul_zero, Int.add_zero]
        · rw [b, if_pos (by decide), getF_set e hw]
          by_cases z : x = what
          · subst z; rw [if_pos rfl, if_pos rfl, Int.mul_one]
          · rw [if_neg z, if_neg z, Int.zero_mul, Int.add_zero]
theorem band_pow {x : Int} (h : 0 ≤ x) (j : Nat) : band x (2 ^ j) = bt x j * 2 ^ j := by
  obtain ⟨n, rfl⟩ : ∃ n : Nat, x = n := ⟨x.toNat, by omega⟩
  have e : (2 : Int) ^ j = ((2 ^ j : Nat) : Int) := by push_cast; rfl
  rw [bt_nat, e, band_nat, and_two]
  split <;> simp
noncomputable def kinds : List Str := KD.map (·.kind)
noncomputable def bitsFit (bs : Bits) : Bool := bs.length == 32 && bs.all fun p => p.1 == sO "" || five.any (· == p.1)
theorem kinds_fit : kinds.all (fun k => bitsFit (bitsF k)) = true := by decide +kernel
theorem bits_ok {k : Str} (h : k ∈ kinds) : BitsOk (bitsF k) := by
  have e := List.all_eq_true.mp kinds_fit k h
  unfold bitsFit at e
  rw [Bool.and_eq_true, beq_iff_eq] at e
  refine ⟨e.1, fun p hp => ?_⟩
  have := List.all_eq_true.mp e.2 p hp
  rw [Bool.or_eq_true, beq_iff_eq, List.any_eq_true] at this
  rcases this with q | ⟨x, hx, q⟩
  · exact .inl q
  · rw [beq_iff_eq] at q; exact .inr (q ▸ hx)
theorem SH_kinds : SH.all (fun r => kinds.any (· == r.kind)) = true := by decide +kernel
theorem kind_mem {r : SR} (h : r ∈ SH) : r.kind ∈ kinds := by
  have e := List.all_eq_true.mp SH_kinds r h
  rw [List.any_eq_true] at e
  obtain ⟨x, hx, q⟩ := e
  rw [beq_iff_eq] at q; exact q ▸ hx
noncomputable def y0 : Sy := some ([], 0)
noncomputable def yW : Sy := some (yTab 32 (· + 2), 0)
noncomputable def yP (k m : Nat) : Sy := yAnd m (yShr k yW)
noncomputable def yHi : Sy := yShr 20 yW
noncomputable def yI : Sy := ySgn yHi
noncomputable def yS : Sy := ySgn (yOr (yShl 5 (yShr 25 yW)) (yP 7 5))
noncomputable def yB : Sy := ySgn (yOr (yOr (yShl 11 (yP 7 1)) (yShl 1 (yP 8 4))) (yShl 5 (yP 25 6)))
noncomputable def yJ : Sy := ySgn (yOr (yOr (yShl 12 (yP 12 8)) (yShl 11 (yP 20 1))) (yShl 1 (yP 21 10)))
noncomputable def sgnOk (n : Nat) : Sy → Bool
  | some (l, 0) => l.length == n
  | _ => false
theorem is_sgn2 {w x : Int} {s : Sy} {n : Nat} {c : Bool} (hn : sgnOk n s = true) (hc : c = (bt w 31 != 0)) (h : Is w x s) : Is w (if c then x - 2 ^ n else x) (ySgn s) := match s with
  | none => trivial
  | some (l, 0) => is_sgn (beq_iff_eq.mp hn) hc h
noncomputable def decL (k : Str) : List Sy :=
  if k == sO "I" then [yP 7 5, yP 15 5, y0, yI, y0] else
  if k == sO "R" then [yP 7 5, yP 15 5, yP 20 5, y0, y0] else
  if k == sO "B" then [y0, yP 15 5, yP 20 5, yB, y0] else
  if k == sO "S" then [y0, yP 15 5, yP 20 5, yS, y0] else
  if k == sO "U" then [yP 7 5, y0, y0, yShr 12 yW, y0] else
  if k == sO "J" then [yP 7 5, y0, y0, yJ, y0] else
  if k == sO "shift" then [yP 7 5, yP 15 5, y0, yP 20 5, y0] else
  if k == sO "fence" then [yP 7 5, yP 15 5, y0, yHi, y0] else
  if k == sO "CSR" then [yP 7 5, yP 15 5, y0, y0, yHi] else
  if k == sO "CSRI" then [yP 7 5, y0, y0, yP 15 5, yHi] else
  if k == sO "flush" then [y0, yP 15 5, yP 20 5, y0, y0] else [y0, y0, y0, y0, y0]
noncomputable def IsI (w : Int) (nm : Str) (i : Ins) : List Sy → Prop
  | [a, b, c, d, e] => i.nm = nm ∧ Is w i.rd a ∧ Is w i.rs1 b ∧ Is w i.rs2 c ∧ Is w i.imm d ∧ Is w i.csr e
  | _ => False
section
variable {w : Int} (w0 : 0 ≤ w) (w1 : w < 2 ^ 32)
include w0 w1
theorem is_p (k m : Nat) : Is w (band (shr w k) (2 ^ m - 1)) (yP k m) := is_and m (is_shr k (is_word w0 w1))
theorem top_bt : (shr w 31 != 0) = (bt w 31 != 0) := by
  have h : Is w (shr w 31) (some ([33], 0)) := is_shr 31 (is_word w0 w1)
  have e : shr w 31 = bt w 31 := by
    unfold bt
    rw [← shr_div]
    exact (Int.emod_eq_of_lt h.nn.1 h.nn.2).symm
  rw [e]
theorem imm_top : (band (fHi w) 2048 != 0) = (bt w 31 != 0) := by
  have h : Is w (fHi w) yHi := is_shr 20 (is_word w0 w1)
  have e : band (fHi w) 2048 = bt (fHi w) 11 * 2048 := band_pow (Is.nn (l := yTab 32 (· + 2) |>.drop 20) h).1 11
  have e2 : bt (fHi w) 11 = bt w 31 := h 11
  rw [e, e2]
  rcases bt01 w 31 with b | b <;> rw [b] <;> decide
theorem dec_is (r : SR) : IsI w r.name (decR r w) (decL r.kind) := by
  have z := is_zero w
  have rd : Is w (fRd w) (yP 7 5) := is_p w0 w1 7 5
  have r1 : Is w (fR1 w) (yP 15 5) := is_p w0 w1 15 5
  have r2 : Is w (fR2 w) (yP 20 5) := is_p w0 w1 20 5
  have hi : Is w (fHi w) yHi := is_shr 20 (is_word w0 w1)
  have u : Is w (shr w 12) (yShr 12 yW) := is_shr 12 (is_word w0 w1)
  have i : Is w (immI w) yI := is_sgn2 (n := 12) (by decide) (imm_top w0 w1) hi
  have s : Is w (immS w) yS := is_sgn2 (n := 12) (by decide) (top_bt w0 w1) (is_or (is_shl 5 (is_shr 25 (is_word w0 w1))) rd)
  have b : Is w (gbF w) yB := is_sgn2 (n := 12) (by decide) (top_bt w0 w1) (is_or (is_or (is_shl 11 (is_p w0 w1 7 1)) (is_shl 1 (is_p w0 w1 8 4))) (is_shl 5 (is_p w0 w1 25 6)))
  have j : Is w (gjF w) yJ := is_sgn2 (n := 20) (by decide) (top_bt w0 w1) (is_or (is_or (is_shl 12 (is_p w0 w1 12 8)) (is_shl 11 (is_p w0 w1 20 1))) (is_shl 1 (is_p w0 w1 21 10)))
  clear w0 w1
  unfold decR decL
  refine ite_rel (R := IsI w r.name) ⟨rfl, rd, r1, z, i, z⟩ ?_
  refine ite_rel (R := IsI w r.name) ⟨rfl, rd, r1, r2, z, z⟩ ?_
  refine ite_rel (R := IsI w r.name) ⟨rfl, z, r1, r2, b, z⟩ ?_
  refine ite_rel (R := IsI w r.name) ⟨rfl, z, r1, r2, s, z⟩ ?_
  refine ite_rel (R := IsI w r.name) ⟨rfl, rd, z, z, u, z⟩ ?_
  refine ite_rel (R := IsI w r.name) ⟨rfl, rd, z, z, j, z⟩ ?_
  refine ite_rel (R := IsI w r.name) ⟨rfl, rd, r1, z, r2, z⟩ ?_
  refine ite_rel (R := IsI w r.name) ⟨rfl, rd, r1, z, hi, z⟩ ?_
  refine ite_rel (R := IsI w r.name) ⟨rfl, rd, r1, z, z, hi⟩ ?_
  refine ite_rel (R := IsI w r.name) ⟨rfl, rd, z, z, r1, hi⟩ ?_
  exact ite_rel (R := IsI w r.name) ⟨rfl, z, r1, r2, z, z⟩ ⟨rfl, z, z, z, z, z⟩
end
noncomputable def yF (l : List Sy) (x : Str) : Sy := ((five.zip l).lookup x).getD none
theorem IsI.field {w : Int} {nm : Str} {i : Ins} {l : List Sy} (h : IsI w nm i l) {x : Str} (hx : x ∈ five) : Is w (getF i x) (yF l x) := match l, h with
  | [a, b, c, d, e], ⟨_, h1, h2, h3, h4, h5⟩ => by
    rcases mem_five hx with rfl | rfl | rfl | rfl | rfl
    · rw [getF_rd, show yF [a, b, c, d, e] (sO "rd") = a by kernel_rfl]; exact h1
    · rw [getF_rs1, show yF [a, b, c, d, e] (sO "rs1") = b by kernel_rfl]; exact h2
    · rw [getF_rs2, show yF [a, b, c, d, e] (sO "rs2") = c by kernel_rfl]; exact h3
    · rw [getF_imm, show yF [a, b, c, d, e] (sO "imm") = d by kernel_rfl]; exact h4
    · rw [getF_csr, show yF [a, b, c, d, e] (sO "csr") = e by kernel_rfl]; exact h5
theorem IsI.nm {w : Int} {nm : Str} {i : Ins} {l : List Sy} (h : IsI w nm i l) : i.nm = nm := match l, h with
  | [_, _, _, _, _], h => h.1
noncomputable def coFit (bs : Bits) (x : Str) : Sy → Bool
  | some (l, t) => l.all okc && okc t && (List.range 32).all (fun k => coef bs x k == coL l 1 k + one t (-(2 ^ l.length * 1)) k)
  | none => false
theorem co_fit : kinds.all (fun k => five.all fun x => coFit (bitsF k) x (yF (decL k) x)) = true := by decide +kernel
theorem dec_drawn {w : Int} (w0 : 0 ≤ w) (w1 : w < 2 ^ 32) {r : SR} (h : r ∈ SH) : decR r w = drawn (bitsF r.kind) w r.name 32 := by
  have I := dec_is w0 w1 r
  refine ins_ext (by rw [I.nm, drawn_nm]) fun x hx => ?_
  rw [getF_drawn (bits_ok (kind_mem h)) hx]
  have f := List.all_eq_true.mp (List.all_eq_true.mp co_fit _ (kind_mem h)) x hx
  have i := I.field hx
  revert f i
  generalize yF (decL r.kind) x = s
  intro f i
  match s with
  | some (l, t) =>
    unfold coFit at f
    rw [Bool.and_eq_true, Bool.and_eq_true] at f
    rw [← Int.mul_one (getF (decR r w) x), i.sum f.1.2 l 1 f.1.1]
    exact dsum_congr 32 fun k hk => (beq_iff_eq.mp (List.all_eq_true.mp f.2 k (List.mem_range.mpr hk))).symm
noncomputable def put (r : SR) (w : Int) : Int := seg (fun j => if fixP (cl r) j = true then bt r.fixed j else bt w j) 0 32
theorem put_01 (r : SR) (w : Int) (j : Nat) : (if fixP (cl r) j = true then bt r.fixed j else bt w j) = 0 ∨ (if fixP (cl r) j = true then bt r.fixed j else bt w j) = 1 := by
  split
  · exact bt01 _ _
  · exact bt01 _ _
theorem put_range (r : SR) (w : Int) : 0 ≤ put r w ∧ put r w < 2 ^ 32 := seg_range (put_01 r w) 32
theorem put_bt (r : SR) (w : Int) {j : Nat} (hj : j < 32) : bt (put r w) j = if fixP (cl r) j = true then bt r.fixed j else bt w j := bt_seg (put_01 r w) 32 j hj
noncomputable def encB (f : Sy) : List Sy → Sy
  | [a, b, c, _, _] => yOr (yOr (yOr f (yShl 7 a)) (yShl 15 b)) (yShl 20 c)
  | _ => none
noncomputable def yM : List Sy → Sy
  | [_, _, _, d, _] => d
  | _ => none
noncomputable def yC : List Sy → Sy
  | [_, _, _, _, e] => e
  | _ => none
noncomputable def encY (k : Str) (f : Sy) (l : List Sy) : Sy :=
  if kIsf.any (· == k) then yOr (encB f l) (yShl 20 (yAnd 12 (yM l))) else
  if k == sO "S" then yOr (yOr (encB f l) (yShl 25 (yAnd 7 (yShr 5 (yM l))))) (yShl 7 (yAnd 5 (yM l))) else
  if k == sO "B" then yOr (encB f l) (yOr (yOr (yOr (yShl 31 (yAnd 1 (yShr 12 (yM l)))) (yShl 25 (yAnd 6 (yShr 5 (yM l))))) (yShl 8 (yAnd 4 (yShr 1 (yM l))))) (yShl 7 (yAnd 1 (yShr 11 (yM l))))) else
  if k == sO "U" then yOr (encB f l) (yShl 12 (yM l)) else
  if k == sO "J" then yOr (encB f l) (yOr (yOr (yOr (yShl 31 (yAnd 1 (yShr 20 (yM l)))) (yShl 21 (yAnd 10 (yShr 1 (yM l))))) (yShl 20 (yAnd 1 (yShr 11 (yM l))))) (yShl 12 (yAnd 8 (yShr 12 (yM l))))) else
  if k == sO "CSR" then yOr (encB f l) (yShl 20 (yC l)) else
  if k == sO "CSRI" then yOr (yOr (encB f l) (yShl 20 (yC l))) (yShl 15 (yM l)) else encB f l
theorem enc_is {w : Int} {r : SR} {i : Ins} {f : Sy} {l : List Sy} (hf : Is w r.fixed f) (h : IsI w r.name i l) : Is w (encF r i) (encY r.kind f l) := by
  have hb : Is w (encBase r i) (encB f l) := match l, h with
    | [a, b, c, d, e], ⟨_, h1, h2, h3, _, _⟩ => is_or (is_or (is_or hf (is_shl 7 h1)) (is_shl 15 h2)) (is_shl 20 h3)
  have hm : Is w i.imm (yM l) := match l, h with
    | [a, b, c, d, e], ⟨_, _, _, _, h4, _⟩ => h4
  have hc : Is w i.csr (yC l) := match l, h with
    | [a, b, c, d, e], ⟨_, _, _, _, _, h5⟩ => h5
  have an : ∀ (k m : Nat), Is w (band (shr i.imm k) (2 ^ m - 1)) (yAnd m (yShr k (yM l))) := fun k m => is_and m (is_shr k hm)
  unfold encF encY
  refine ite_rel (R := Is w) (is_or hb (is_shl 20 (is_and 12 hm))) ?_
  refine ite_rel (R := Is w) (is_or (is_or hb (is_shl 25 (an 5 7))) (is_shl 7 (is_and 5 hm))) ?_
  refine ite_rel (R := Is w) (is_or hb (is_or (is_or (is_or (is_shl 31 (an 12 1)) (is_shl 25 (an 5 6))) (is_shl 8 (an 1 4))) (is_shl 7 (an 11 1)))) ?_
  refine ite_rel (R := Is w) (is_or hb (is_shl 12 hm)) ?_
  refine ite_rel (R := Is w) (is_or hb (is_or (is_or (is_or (is_shl 31 (an 20 1)) (is_shl 21 (an 1 10))) (is_shl 20 (an 11 1))) (is_shl 12 (an 12 8)))) ?_
  refine ite_rel (R := Is w) (is_or hb (is_shl 20 hc)) ?_
  exact ite_rel (R := Is w) (is_or (is_or hb (is_shl 20 hc)) (is_shl 15 hm)) hb
noncomputable def conL (f : Int) : List Nat := yTab 32 fun i => (bt f i).toNat
noncomputable def putL (r : SR) : List Nat := yTab 32 fun j => if fixP (cl r) j then (bt r.fixed j).toNat else j + 2
noncomputable def encFit (r : SR) : Bool := encY r.kind (some (conL r.fixed, 0)) (decL r.kind) == some (putL r, 0)
theorem enc_fit : SH.all encFit = true := by decide +kernel
theorem put_is (r : SR) (w : Int) : Is w (put r w) (some (putL r, 0)) := by
  refine is_tab _ (put_range r w).1 (put_range r w).2 fun j hj => ?_
  rw [put_bt r w hj]
  by_cases q : fixP (cl r) j = true
  · rw [if_pos q, if_pos q]
    rcases bt01 r.fixed j with e | e <;> rw [e] <;> rfl
  · rw [if_neg q, if_neg q]; rfl
theorem enc_put {w : Int} (w0 : 0 ≤ w) (w1 : w < 2 ^ 32) {r : SR} (h : r ∈ SH) : encF r (decR r w) = put r w := by
  have e := enc_is (is_con w (fixed_lt h).1 (fixed_lt h).2) (dec_is w0 w1 r)
  have f := beq_iff_eq.mp (List.all_eq_true.mp enc_fit r h)
  rw [show encY r.kind (some (yTab 32 fun i => (bt r.fixed i).toNat, 0)) (decL r.kind) = some (putL r, 0) from f] at e
  exact e.eq (put_is r w)
theorem check_eq (q : KR) (i : Ins) : checkF q i = (okField q (sO "rd") i.rd && (okField q (sO "rs1") i.rs1 && (okField q (sO "rs2") i.rs2 && (okField q (sO "imm") i.imm && (okField q (sO "csr") i.csr && true))))) := rfl
noncomputable def okY (q : KR) (x : Str) : Sy → Bool
  | some (l, t) => if q.used.any (· == x) then (if x == sO "imm" then (match q.rng with
      | some (_, lo, hi, st) => decide (lo ≤ if t = 0 then 0 else -(2 ^ l.length)) && ((st == 1 && decide (2 ^ l.length - 1 ≤ hi)) || (st == 2 && (l.head? == some 0 && decide (2 ^ l.length - 2 ≤ hi))))
      | none => false) else t == 0 && decide ((2 : Int) ^ l.length ≤ if x == sO "csr" then 4096 else 32)) else l.all (· == 0) && t == 0
  | none => false
noncomputable def tr (s : Sy) : Sy := match s with
  | some (l, t) => if l.getLast? = some t then some (l.dropLast, t) else some (l, t)
  | none => none
theorem Is.tr {w n : Int} {s : Sy} (h : Is w n s) : Is w n (tr s) := match s, h with
  | none, _ => trivial
  | some (l, t), h => by
    show Is w n (if l.getLast? = some t then some (l.dropLast, t) else some (l, t))
    split
    · rename_i e
      intro i
      rw [h i, List.getElem?_dropLast]
      split
      · rfl
      · rename_i q
        rw [List.getLast?_eq_getElem?] at e
        rcases Nat.lt_or_ge i l.length with z | z
        · rw [show i = l.length - 1 by omega, e]; rfl
        · rw [List.getElem?_eq_none z]
    · exact h
theorem ok_fit : KD.all (fun q => five.all fun x => okY q x (tr (yF (decL q.kind) x))) = true := by decide +kernel
theorem Is.z {w n : Int} {l} (h : Is w n (some (l, 0))) (z : l.all (· == 0) = true) : n = 0 := bt_eq fun i => by
  rw [h, bt_zero]
  cases q : l[i]? with
  | none => rfl
  | some a => rw [beq_iff_eq.mp (List.all_eq_true.mp z a (List.mem_of_getElem? q))]; rfl
theorem Is.lo {w n : Int} {l t} (h : Is w n (some (l, t))) : (if t = 0 then 0 else -(2 ^ l.length)) ≤ n ∧ n < 2 ^ l.length := by
  have r := h.rng
  have p := two_pos l.length
  split
  · rename_i e
    subst e
    exact Is.nn h
  · rcases bv01 w t with e | e
    · rw [e, Int.zero_mul] at r; omega
    · rw [e, Int.one_mul] at r; omega
theorem Is.ev {w n : Int} {l t} (h : Is w n (some (l, t))) (z : l.head? = some 0) : n.fmod 2 = 0 ∧ n ≤ 2 ^ l.length - 2 := by
  have r := h.lo
  match l, z with
  | 0 :: l, _ =>
    have e := h.half.2
    rw [show bv w 0 = 0 from rfl] at e
    have r2 := r.2
    rw [List.length_cons, Int.pow_succ] at r2 ⊢
    rw [Int.fmod_eq_emod_of_nonneg _ (by decide)]
    generalize n / 2 = m at e
    generalize (2 : Int) ^ l.length = p at r2 ⊢
    omega
theorem ok_of {w n : Int} {q : KR} {x : Str} {s : Sy} (h : Is w n s) (k : okY q x s = true) : okField q x n = true := match s, h, k with
  | some (l, t), h, k => by
    unfold okY at k
    dsimp only at k
    unfold okField
    have r := h.lo
    by_cases u : q.used.any (· == x) = true
    · rw [if_pos u] at k ⊢
      by_cases v : (x == sO "imm") = true
      · rw [if_pos v] at k ⊢
        cases g : q.rng with
        | none => rw [g] at k; cases k
        | some p =>
          obtain ⟨_, lo, hi, st⟩ := p
          rw [g] at k
          simp only [Bool.and_eq_true, Bool.or_eq_true, decide_eq_true_eq, beq_iff_eq] at k
          obtain ⟨k1, k2⟩ := k
          have a := Int.le_trans k1 r.1
          show ((decide (lo ≤ n) && decide (n ≤ hi)) && !(n.fmod st != 0)) = true
          rcases k2 with ⟨e, k2⟩ | ⟨e, z, k2⟩
          · rw [e, Int.fmod_one, decide_eq_true a, decide_eq_true (Int.le_trans (Int.le_sub_one_of_lt r.2) k2)]; rfl
          · rw [e, (h.ev z).1, decide_eq_true a, decide_eq_true (Int.le_trans (h.ev z).2 k2)]; rfl
      · rw [if_neg v] at k ⊢
        rw [Bool.and_eq_true, beq_iff_eq, decide_eq_true_eq] at k
        obtain ⟨k1, k2⟩ := k
        subst k1
        rw [decide_eq_true h.nn.1, decide_eq_true (Int.lt_of_lt_of_le r.2 k2)]; rfl
    · rw [if_neg u] at k ⊢
      rw [Bool.and_eq_true, beq_iff_eq] at k
      obtain ⟨k1, k2⟩ := k
      subst k2
      rw [h.z k1]; rfl
theorem chk {w : Int} (w0 : 0 ≤ w) (w1 : w < 2 ^ 32) {r : SR} (h : r ∈ SH) : ∃ q ∈ KD, q.kind = r.kind ∧ checkF q (decR r w) = true := by
  obtain ⟨q, hq, e⟩ := List.mem_map.mp (kind_mem h)
  have I := dec_is w0 w1 r
  have o : ∀ x ∈ five, okField q x (getF (decR r w) x) = true := fun x hx => ok_of (e ▸ (I.field hx).tr) (List.all_eq_true.mp (List.all_eq_true.mp ok_fit q hq) x hx)
  refine ⟨q, hq, e, ?_⟩
  rw [check_eq, ← getF_rd, ← getF_rs1, ← getF_rs2, ← getF_imm, ← getF_csr]
  rw [o _ (by decide +kernel), o _ (by decide +kernel), o _ (by decide +kernel), o _ (by decide +kernel), o _ (by decide +kernel)]; rfl
theorem check_set {q : KR} {i : Ins} (h : checkF q i = true) {what : Str} (hw : what ∈ five) (v : Int) : checkF q (setI i what v) = okField q what v := by
  rw [check_eq] at h
  simp only [Bool.and_eq_true] at h
  obtain ⟨a, b, c, d, e, _⟩ := h
  rcases mem_five hw with rfl | rfl | rfl | rfl | rfl
  · rw [set_rd, check_eq]; simp only [b, c, d, e, Bool.and_true]
  · rw [set_rs1, check_eq]; simp only [a, c, d, e, Bool.and_true, Bool.true_and]
  · rw [set_rs2, check_eq]; simp only [a, b, d, e, Bool.and_true, Bool.true_and]
  · rw [set_imm, check_eq]; simp only [a, b, c, e, Bool.and_true, Bool.true_and]
  · rw [set_csr, check_eq]; simp only [a, b, c, d, Bool.and_true, Bool.true_and]
noncomputable def rangeFit (q : KR) (x : Str) : Bool :=
  okField q x (loF (wsF (bitsF q.kind) x)) && okField q x (hiF (wsF (bitsF q.kind) x)) && !okField q x (loF (wsF (bitsF q.kind) x) - min2 (stF (wsF (bitsF q.kind) x))) && !okField q x (hiF (wsF (bitsF q.kind) x) + min2 (stF (wsF (bitsF q.kind) x))) && (stF (wsF (bitsF q.kind) x) != 2 || !okField q x (loF (wsF (bitsF q.kind) x) + 1))
theorem KD_range : KD.all (fun q => five.all (rangeFit q)) = true := by decide +kernel
theorem range_ok {q : KR} (hq : q ∈ KD) {i : Ins} (h : checkF q i = true) {what : Str} (hw : what ∈ five) : RangeOk q i (bitsF q.kind) what := by
  have e := List.all_eq_true.mp (List.all_eq_true.mp KD_range q hq) what hw
  unfold rangeFit at e
  simp only [Bool.and_eq_true, Bool.or_eq_true, Bool.not_eq_true', bne_iff_ne, ne_eq] at e
  obtain ⟨⟨⟨⟨a, b⟩, c⟩, d⟩, f⟩ := e
  refine ⟨?_, ?_, ?_, ?_, fun z => ?_⟩
  · rw [check_set h hw]; exact a
  · rw [check_set h hw]; exact b
  · rw [check_set h hw]; exact c
  · rw [check_set h hw]; exact d
  · rw [check_set h hw]
    rcases f with f | f
    · exact absurd z f
    · exact f
noncomputable def placeFit (r : SR) : Bool := (List.range 32).all fun k => match (bitsF r.kind)[k]? with | some p => (p.1 == sO "") == fixP (cl r) (31 - k) | none => false
theorem SH_place : SH.all placeFit = true := by decide +kernel
theorem place {r : SR} (h : r ∈ SH) {k : Nat} (hk : k < 32) {p : Str × Int} (e : (bitsF r.kind)[k]? = some p) : (p.1 == sO "") = fixP (cl r) (31 - k) := by
  have q := List.all_eq_true.mp (List.all_eq_true.mp SH_place r h) k (List.mem_range.mpr hk)
  rw [e] at q
  exact beq_iff_eq.mp q
theorem coef_fixed {r : SR} (h : r ∈ SH) {k : Nat} (hk : k < 32) {what : Str} (hw : what ∈ five) (f : fixP (cl r) (31 - k) = true) : coef (bitsF r.kind) what k = 0 := by
  unfold coef
  cases e : (bitsF r.kind)[k]? with
  | none => rfl
  | some p =>
    have := place h hk e
    rw [f, beq_iff_eq] at this
    show (if p.1 = what then p.2 else 0) = 0
    rw [this, if_neg (fun z => five_ne _ hw z.symm)]
theorem drawn_same {r : SR} (h : r ∈ SH) {u v : Int} (e : ∀ j, j < 32 → fixP (cl r) j = false → bt u j = bt v j) : drawn (bitsF r.kind) u r.name 32 = drawn (bitsF r.kind) v r.name 32 := by
  have B := bits_ok (kind_mem h)
  refine ins_ext (by rw [drawn_nm, drawn_nm]) fun x hx => ?_
  rw [getF_drawn B hx, getF_drawn B hx]
  refine dsum_bits 32 (Nat.le_refl _) fun k hk => ?_
  cases f : fixP (cl r) (31 - k) with
  | true => exact .inl (coef_fixed h hk hx f)
  | false => exact .inr (e (31 - k) (by omega) f)
theorem put_M (r : SR) (w : Int) : M r (put r w) := fun j hj f => by rw [put_bt r w hj, if_pos f]
theorem put_of_M {r : SR} {w : Int} (w0 : 0 ≤ w) (w1 : w < 2 ^ 32) (h : M r w) : put r w = w := by
  unfold put
  rw [seg_congr (g := bt w) fun j _ hj => ?_, seg_whole w0 w1]
  split
  · rename_i f; exact (h j (by omega) f).symm
  · rfl
theorem dsum_flip {f : Nat → Int} {u v : Int} {k : Nat} : ∀ n, n ≤ 32 → (∀ i, i < n → i ≠ k → bt u (31 - i) = bt v (31 - i)) → dsum f u n = dsum f v n + if k < n then f k * (bt u (31 - k) - bt v (31 - k)) else 0
  | 0, _, _ => rfl
  | n + 1, hn, h => by
    unfold dsum
    rw [dsum_flip n (by omega) fun i a b => h i (by omega) b]
    by_cases q : k = n
    · subst q
      rw [if_neg (Nat.lt_irrefl _), if_pos (Nat.lt_succ_self _), Int.mul_sub]; omega
    · rw [h n (by omega) (fun z => q z.symm)]
      by_cases q2 : k < n
      · rw [if_pos q2, if_pos (by omega)]; omega
      · rw [if_neg q2, if_neg (by omega)]; omega
theorem told_ok {v : Int} (v0 : 0 ≤ v) (v1 : v < 2 ^ 32) {r' : SR} (e : findS v = some r') : ∃ q ∈ KD, q.kind = r'.kind ∧ checkF q (decR r' v) = true ∧ encF r' (decR r' v) = v := by
  obtain ⟨h1, h2⟩ := M_of_find v0 e
  obtain ⟨q, a, b, c⟩ := chk v0 v1 h1
  exact ⟨q, a, b, c, (enc_put v0 v1 h1).trans (put_of_M v0 v1 h2)⟩
theorem turn_ok {r : SR} (h : r ∈ SH) {p : Int} (p0 : 0 ≤ p) (p1 : p < 2 ^ 32) (hM : M r p) {k : Nat} (hk : k < 32) {what : Str} {worth : Int} (e : (bitsF r.kind)[k]? = some (what, worth)) : TurnOk (drawn (bitsF r.kind) p r.name 32) p k what worth := by
  have hj : 31 - k < 32 := by omega
  obtain ⟨⟨o0, o1⟩, ob⟩ := flip_bt p0 p1 hj
  have B := bits_ok (kind_mem h)
  have hpl := place h hk e
  refine ⟨o0, o1, fun r' e' => told_ok o0 o1 e', fun hw r' e' hn => ?_, fun hw => ?_⟩
  · rw [drawn_nm] at hn
    obtain ⟨h1, h2⟩ := M_of_find o0 e'
    have : r' = r := nodup_inj SH_nodup h1 h hn
    subst this
    have f : fixP (cl r') (31 - k) = true := by
      rw [← hpl]; exact beq_iff_eq.mpr hw
    have a := h2 (31 - k) hj f
    have b := hM (31 - k) hj f
    have c := ob (31 - k) hj
    rw [if_pos rfl] at c
    have d := bt01 p (31 - k)
    have a' : bt (bxor p (2 ^ (31 - k))) (31 - k) = bt r'.fixed (31 - k) := a
    omega
  · have f : fixP (cl r) (31 - k) = false := by
      rw [← hpl]; exact beq_eq_false_iff_ne.mpr hw
    have hw5 : what ∈ five := (B.what _ (List.mem_of_getElem? e)).resolve_left hw
    have hM' : M r (bxor p (2 ^ (31 - k))) := fun j hj' fj => by
      rw [ob j hj', if_neg (fun z => by rw [z, f] at fj; cases fj)]
      exact hM j hj' fj
    refine ⟨r, _, find_of_M o0 o1 h hM', lkF_any hw5 _, ?_⟩
    show decR r (bxor p (2 ^ (31 - k))) = _
    rw [dec_drawn o0 o1 h]
    refine ins_ext (by rw [drawn_nm]; show _ = (drawn (bitsF r.kind) p r.name 32).nm; rw [drawn_nm]) fun x hx => ?_
    rw [getF_drawn B hx, getF_set hw5 hx, getF_drawn B hw5, getF_drawn B hx]
    rw [dsum_flip (f := coef (bitsF r.kind) x) (u := bxor p (2 ^ (31 - k))) (v := p) (k := k) 32 (Nat.le_refl _) fun i hi hne => ?_]
    · rw [if_pos hk, ob (31 - k) hj, if_pos rfl]
      have hc : coef (bitsF r.kind) x k = if what = x then worth else 0 := by unfold coef; rw [e]
      rw [hc]
      by_cases z : what = x
      · subst z
        rw [if_pos rfl, if_pos rfl]
        have hp := two_pos (31 - k)
        have hs : otherW p k = p + (1 - 2 * bt p (31 - k)) * 2 ^ (31 - k) := flip_eq p0 _
        rw [hs]
        rcases bt01 p (31 - k) with b | b <;> rw [b]
        · rw [if_pos (by omega)]; omega
        · rw [if_neg (by omega)]; omega
      · rw [if_neg z, if_neg z, Int.zero_mul, Int.add_zero]
    · rw [ob (31 - i) (by omega), if_neg (by omega)]
theorem SH_lay : SH.all (fun r => (PyData.str r.name).canLay0) = true := by decide +kernel
theorem plain (r : SR) (h : r ∈ SH) (w : Int) (w0 : 0 ≤ w) (w1 : w < 2 ^ 32) : LawAt r w := by
  have hd := dec_drawn w0 w1 h
  have he : encF r (drawn (bitsF r.kind) w r.name 32) = put r w := by rw [← hd]; exact enc_put w0 w1 h
  obtain ⟨p0, p1⟩ := put_range r w
  have hp : drawn (bitsF r.kind) (put r w) r.name 32 = drawn (bitsF r.kind) w r.name 32 := drawn_same h fun j hj f => by rw [put_bt r w hj, if_neg (by rw [f]; decide)]
  refine ⟨List.all_eq_true.mp SH_lay r h, bits_ok (kind_mem h), ?_, by rw [he]; exact p0, by rw [he]; exact p1, ?_, ?_⟩
  · obtain ⟨q, a, b, c⟩ := chk w0 w1 h
    rw [hd] at c
    exact ⟨q, a, b, c, fun what hw => b ▸ range_ok a c hw⟩
  · rw [he]
    exact ⟨r, find_of_M p0 p1 h (put_M r w), by rw [dec_drawn p0 p1 h]; exact hp⟩
  · intro k hk what worth e
    rw [he, ← hp]
    exact turn_ok h p0 p1 (put_M r w) hk e
theorem all : PySem.Challenge.rw_nz0215_01.Holds := hd (walk plain)
end Mine
theorem PySem.Challenge.cw_nz0215_01_holds : PySem.Challenge.rw_nz0215_01.Holds := by
  exact Mine.all
