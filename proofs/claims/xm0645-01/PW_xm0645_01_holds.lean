import PyProof.Rows.All
import Wide.All
import OpenK.AllK
import KE.KDictOf
import KE.KDictList
import KE.KDictSum
import KE.KSortTup
import Wide.FinOn
import PySem.Challenge.RW_xm0645_01
open PySem PySem.W PyProof.Rows PySem.Calls
set_option Elab.async false
set_option linter.unusedVariables false
namespace Mine
set_option maxRecDepth 100000 in
set_option maxHeartbeats 8000000 in
open_top hd for PySem.Challenge.rw_xm0645_01
set_option maxRecDepth 100000
section
open PySem PySem.W PyProof.Rows PySem.Calls PySem.Spec
abbrev F0 : Value → Shared → Prop := fun _ _ => False

theorem F0_mono {E : Value → Shared → Prop} : ∀ e s, F0 e s → E e s := fun _ _ h => h.elim

def Kp (h h' : Heap) : Prop := ∀ b o, h.get? b = some o → h'.get? b = some o
inductive All2 {α β : Type} (R : α → β → Prop) : List α → List β → Prop
  | nil : All2 R [] []
  | cons {a b as bs} : R a b → All2 R as bs → All2 R (a :: as) (b :: bs)

theorem All2.mono {α β : Type} {R R' : α → β → Prop} (h : ∀ a b, R a b → R' a b) : ∀ {as : List α} {bs : List β}, All2 R as bs → All2 R' as bs
  | _, _, .nil => .nil
  | _, _, .cons a r => .cons (h _ _ a) (r.mono h)
theorem All2.snoc {α β : Type} {R : α → β → Prop} {a : α} {b : β} (h : R a b) : ∀ {as : List α} {bs : List β}, All2 R as bs → All2 R (as ++ [a]) (bs ++ [b])
  | _, _, .nil => .cons h .nil
  | _, _, .cons x r => .cons x (r.snoc h)
theorem All2.length {α β : Type} {R : α → β → Prop} : ∀ {as : List α} {bs : List β}, All2 R as bs → as.length = bs.length
  | _, _, .nil => rfl
  | _, _, .cons _ r => by simp [r.length]
theorem All2.get {α β : Type} {R : α → β → Prop} : ∀ {as : List α} {bs : List β}, All2 R as bs → ∀ {i : Nat} {b : β}, bs[i]? = some b → ∃ a, as[i]? = some a ∧ R a b
  | _, _, .nil, i, b, h => by simp at h
  | _, _, .cons x r, 0, b, h => by simp at h; subst h; exact ⟨_, rfl, x⟩
  | _, _, .cons x r, i + 1, b, h => by simpa using r.get (by simpa using h)

section
variable {prog : Program} {w : World} {A : Around}

theorem comp_loop {elt T iter : Expr} {ifs : List Expr} {scope : Scope} {pos : Pos} {it acc : Value} {env : Env} {R : Result → Shared → Prop} (I : Nat → Shared → Prop)
    (turn : ∀ n s, I n s → wpAny (model prog w) A (pyNext it) (fun r s₁ => match r with
      | none => R (.ok .next) s₁
      | some v => wpAny (model prog w) A (letOwnedTupleGo T it v) (fun _ s₂ => wpAny (model prog w) A (assign T env v) (fun _ s₃ =>
          wpAny (model prog w) A (forIn ifs true fun c r => if r = true then do let ok ← isTrue c env (eval c env); pure (ForInStep.yield ok) else pure (ForInStep.yield r)) (fun ok s₄ =>
            if ok = true then wpAny (model prog w) A (eval elt env) (fun x s₅ => wpAny (model prog w) A (call (.builtin "list.append") [acc, x]) (fun _ s₆ => ∃ m, m < n ∧ I m s₆) F0 s₅) F0 s₄
            else ∃ m, m < n ∧ I m s₄) F0 s₃) F0 s₂) F0 s₁) F0 s)
    (n : Nat) {s : Shared} (h : I n s) : codeAny (model prog w) A (.compLoop (.ListComp elt [⟨T, iter, ifs, 0⟩] scope pos) 0 it acc env) R s := by
  refine codeAny_loop rfl I (fun n s hI => ?_) n h
  show wpAny _ A ((compTurn (.ListComp elt [⟨T, iter, ifs, 0⟩] scope pos) 0 it acc env).onRaise (fun x => do noteFrame x env; theTreesLotGoes x)) _ _ s
  refine wpAny_noted ?_
  rw [compTurn_list]
  refine wpAny_bind (wpAny_standAt (wpAny_bind (wpAny_mono (turn n s hI) (fun r s₁ h₁ => ?_) F0_mono)))
  cases r with
  | none => exact wpAny_pure h₁
  | some v =>
    refine wpAny_bind (wpAny_mono h₁ (fun _ s₂ h₂ => ?_) F0_mono)
    refine wpAny_bind (wpAny_mono h₂ (fun _ s₃ h₃ => ?_) F0_mono)
    refine wpAny_bind (wpAny_mono h₃ (fun ok s₄ h₄ => ?_) F0_mono)
    cases ok with
    | false =>
      simp only [Bool.false_eq_true, if_false] at h₄ ⊢
      first | exact wpAny_bind (wpAny_pure (wpAny_pure ⟨rfl, h₄⟩)) | exact wpAny_pure ⟨rfl, h₄⟩
    | true =>
      simp only [if_true] at h₄ ⊢
      exact wpAny_bind (wpAny_bind (wpAny_mono h₄ (fun x s₅ h₅ => wpAny_bind (wpAny_mono h₅ (fun _ s₆ h₆ => wpAny_pure (wpAny_pure ⟨rfl, h₆⟩)) F0_mono)) F0_mono))

structure Iter (prog : Program) (w : World) (A : Around) (T : Expr) (ev : Addr → Env) (I : Addr) (n : Nat) (W RD : Nat → Prop) (St : Nat → Heap → Prop)
    (Bd : Nat → (Str → Option Value) → (Str → Option Value) → Prop) : Prop where
  sub : ∀ b, W b → RD b
  frame : ∀ i h h', St i h → (∀ b o, RD b → h.get? b = some o → h'.get? b = some o) → St i h'
  item : ∀ i (s : Shared) C m (Q : Unit → Shared → Prop), i < n → St i s.heap → ¬ RD C → (ev C).locals = C → s.heap.Ns C m →
    (∀ h' tk m', St (i + 1) h' → h'.Ns C m' → Bd i m m' → (∀ b o, ¬ W b → b ≠ C → s.heap.get? b = some o → h'.get? b = some o) → Q () { s with heap := h', toks := tk }) →
    wpAny (model prog w) A (pyNext (.ref I)) (fun r s₁ => match r with
      | none => False
      | some v => wpAny (model prog w) A (letOwnedTupleGo T (.ref I) v) (fun _ s₂ => wpAny (model prog w) A (assign T (ev C) v) Q F0 s₂) F0 s₁) F0 s
  done : ∀ (s : Shared) (Q : Option Value → Shared → Prop), St n s.heap →
    (∀ h' tk, (∀ b o, ¬ W b → s.heap.get? b = some o → h'.get? b = some o) → Q none { s with heap := h', toks := tk }) → wpAny (model prog w) A (pyNext (.ref I)) Q F0 s
  self : ∀ (s : Shared) (Q : Value → Shared → Prop), St 0 s.heap → Q (.ref I) s → wpAny (model prog w) A (pyIter (.ref I)) Q F0 s

theorem ltN_ne {a b : Nat} (h : a < b) (k : Nat) : a ≠ b + k := by omega
theorem fresh_none {h : Heap} {a : Addr} (ha : h.objs.size ≤ a) : h.get? a = none := by
  cases e : h.get? a with
  | none => rfl
  | some o' => exact absurd (Heap.lt_size e) (Nat.not_lt.mpr ha)

theorem lc_block {T elt iter : Expr} {ifs : List Expr} {scope : Scope} {cl : List (Str × Addr)} {pos : Pos} {env : Env} {s₂ : Shared} {I : Addr} {n : Nat} {W RD : Nat → Prop} {St : Nat → Heap → Prop}
    {Bd : Nat → (Str → Option Value) → (Str → Option Value) → Prop} {δ : Type} (d : Nat → Option δ) (Rel : Heap → Value → δ → Prop) {RR : Value → Addr → Result → Shared → Prop} {N2 : Nat} (hN2 : N2 = s₂.heap.objs.size)
    (It : Iter prog w A T (fun C => compEnvC scope cl C env) I n W RD St Bd)
    (hcell : ∀ y ∈ scope.names, y.2 ≠ .cell) (hkind : scope.kind = .function) (hst : St 0 s₂.heap) (hRD : ∀ b, RD b → b < N2) (hn : n ≤ sizeLine)
    (mono : ∀ h h' v x, (∀ b o, ¬ W b → b ≠ N2 → b ≠ N2 + 1 → h.get? b = some o → h'.get? b = some o) → Rel h v x → Rel h' v x)
    (tests : ∀ i (s : Shared) m₀ m, i < n → Bd i m₀ m → s.heap.Ns (N2 + 1) m → (∀ b o, ¬ W b → s₂.heap.get? b = some o → s.heap.get? b = some o) →
      wpAny (model prog w) A (forIn ifs true fun c r => if r = true then do let ok ← isTrue c (compEnvC scope cl (N2 + 1) env) (eval c (compEnvC scope cl (N2 + 1) env)); pure (ForInStep.yield ok) else pure (ForInStep.yield r))
        (fun ok s' => Keeps s s' ∧ ok = (d i).isSome) F0 s)
    (elts : ∀ i x (s : Shared) m₀ m, i < n → d i = some x → Bd i m₀ m → s.heap.Ns (N2 + 1) m → (∀ b o, ¬ W b → s₂.heap.get? b = some o → s.heap.get? b = some o) →
      wpAny (model prog w) A (eval elt (compEnvC scope cl (N2 + 1) env)) (fun y s' => Keeps s s' ∧ Rel s'.heap y x) F0 s)
    (fin : ∀ h' tk m' ys, h'.Ns (N2 + 1) m' → h'.PlainList N2 ys.toArray → All2 (Rel h') ys ((List.range n).filterMap d) → (∀ b o, ¬ W b → s₂.heap.get? b = some o → h'.get? b = some o) →
      RR (.ref N2) (N2 + 1) (.ok .next) { s₂ with heap := h', toks := tk }) :
    wpAny (model prog w) A (newList []) (fun acc s₃ => wpAny (model prog w) A (newFunctionEnv scope env.globals cl [] env.qual none .none (some env)) (fun cenv s₄ =>
      codeAny (model prog w) A (.compStart (.ListComp elt [⟨T, iter, ifs, 0⟩] scope pos) 0 (.ref I) acc { cenv with scope := relabel scope env }) (RR acc cenv.locals) s₄) F0 s₃) F0 s₂ := by
  refine wpAny_newObj_type (wpAny_newFunctionEnv hcell (by intro y hy; simp at hy) (fun h₁ hns₁ hsb₁ => ?_) hkind)
  dsimp only at hns₁ hsb₁ ⊢
  generalize hH2 : s₂.heap.push { cls := .type "list", dict := none, data := .seq ([] : List Value).toArray } = H2 at hns₁ hsb₁ ⊢
  have hC : H2.objs.size = N2 + 1 := by rw [← hH2, Heap.size_push, hN2]
  rw [hC] at hns₁ hsb₁ ⊢
  rw [← hN2]
  have old : ∀ b o, s₂.heap.get? b = some o → h₁.get? b = some o := fun b o e => by
    have hb : (b : Nat) < N2 := by rw [hN2]; exact Heap.lt_size e
    exact hsb₁.extBut b o (ltN_ne hb 1) (Heap.get?_push_of_some _ (hH2 ▸ Heap.get?_push_of_some _ e))
  have below : ∀ (b : Nat) o, s₂.heap.get? b = some o → b < N2 := fun b o e => by rw [hN2]; exact Heap.lt_size e
  have hacc : h₁.PlainList N2 #[] := by
    have e0 : H2.get? N2 = some { cls := .type "list", dict := none, data := .seq ([] : List Value).toArray } := by rw [← hH2, hN2]; exact Heap.get?_push_size _ rfl
    exact ⟨_, hsb₁.extBut _ _ (Nat.ne_of_lt (Nat.lt_succ_self _)) (Heap.get?_push_of_some _ e0)⟩
  have loop : ∀ s₃ : Shared, s₃ = { s₂ with heap := h₁, toks := s₂.toks + ([] : List (Str × Value)).length } →
      codeAny (model prog w) A (.compLoop (.ListComp elt [⟨T, iter, ifs, 0⟩] scope pos) 0 (.ref I) (.ref N2) (compEnvC scope cl (N2 + 1) env)) (RR (.ref N2) (N2 + 1)) s₃ := by
    rintro s₃ rfl
    refine comp_loop (fun k s' => ∃ h' tk i ys m', s' = { s₂ with heap := h', toks := tk } ∧ i ≤ n ∧ k = n + 1 - i ∧ St i h' ∧ h'.Ns (N2 + 1) m' ∧ h'.PlainList N2 ys.toArray ∧ ys.length ≤ i ∧
      All2 (Rel h') ys ((List.range i).filterMap d) ∧ (∀ b o, ¬ W b → s₂.heap.get? b = some o → h'.get? b = some o)) ?_ (n + 1)
      ⟨h₁, _, 0, [], _, rfl, Nat.zero_le _, rfl, It.frame _ _ _ hst fun b o _ e => old b o e, hns₁, hacc, Nat.le_refl _, .nil, fun b o _ e => old b o e⟩
    rintro k s' ⟨h', tk, i, ys, m', rfl, hi, rfl, hst', hns', hl', hyl, ha, hk⟩
    have nRDC : ¬ RD (N2 + 1) := fun q => by have := hRD _ q; omega
    have nRDD : ¬ RD N2 := fun q => by have := hRD _ q; omega
    have nWC : ¬ W (N2 + 1) := fun q => nRDC (It.sub _ q)
    have nWD : ¬ W N2 := fun q => nRDD (It.sub _ q)
    by_cases hlt : i < n
    · refine wpAny_mono (It.item i _ (N2 + 1) m' ?Q hlt hst' nRDC rfl hns' ?K) ?MM F0_mono
      case MM =>
        intro r s₁ h₁
        cases r with
        | none => exact h₁.elim
        | some v => exact h₁
      intro h₂ tk₂ m₂ hst₂ hns₂ hBd hk₂
      have hkk : ∀ b o, ¬ W b → s₂.heap.get? b = some o → h₂.get? b = some o := fun b o hb e => hk₂ b o hb (ltN_ne (below b o e) 1) (hk b o hb e)
      have hl₂ : h₂.PlainList N2 ys.toArray := hl'.at fun o e => hk₂ N2 o nWD (by omega) e
      have ha₂ : All2 (Rel h₂) ys ((List.range i).filterMap d) := ha.mono fun v x r => mono _ _ _ _ (fun b o b1 b2 b3 e => hk₂ b o b1 b3 e) r
      refine wpAny_mono (tests i _ m' m₂ hlt hBd hns₂ hkk) (fun ok s₄ h₄ => ?_) F0_mono
      obtain ⟨⟨h₃, tk₃, rfl, kp⟩, rfl⟩ := h₄
      have kp' : Kp h₂ h₃ := kp
      cases hd : d i with
      | none =>
        simp only [Option.isSome_none, Bool.false_eq_true, if_false]
        refine ⟨n + 1 - (i + 1), by omega, h₃, tk₃, i + 1, ys, m₂, rfl, hlt, rfl, It.frame _ _ _ hst₂ fun b o _ e => kp' b o e, hns₂.at' fun o e => kp' _ o e, hl₂.at fun o e => kp' _ o e, by omega, ?_, fun b o hb e => kp' b o (hkk b o hb e)⟩
        rw [List.range_succ, List.filterMap_append]
        simp only [List.filterMap_cons, hd, List.filterMap_nil, List.append_nil]
        exact ha₂.mono fun v x r => mono _ _ _ _ (fun b o _ _ _ e => kp' b o e) r
      | some x =>
        simp only [Option.isSome_some, if_true]
        refine wpAny_mono (elts i x _ m' m₂ hlt hd hBd (hns₂.at' fun o e => kp' _ o e) fun b o hb e => kp' b o (hkk b o hb e)) (fun y s₅ h₅ => ?_) F0_mono
        obtain ⟨⟨h₅, tk₅, rfl, kp5⟩, hrel⟩ := h₅
        have kp5' : Kp h₃ h₅ := kp5
        have hl₅ : h₅.PlainList N2 ys.toArray := (hl₂.at fun o e => kp' _ o e).at fun o e => kp5' _ o e
        refine wpAny_list_append_plain hl₅ (fun h₆ hl₆ hs₆ => ?_) (by rw [List.size_toArray]; omega)
        have sb : ∀ b o, b ≠ N2 → h₅.get? b = some o → h₆.get? b = some o := fun b o hb e => hs₆.extBut b o hb e
        refine ⟨n + 1 - (i + 1), by omega, h₆, tk₅, i + 1, ys ++ [y], m₂, rfl, hlt, rfl, ?_, ?_, by simpa using hl₆, by simp; omega, ?_, ?_⟩
        · exact It.frame _ _ _ hst₂ fun b o hb e => sb b o (fun q => nRDD (q ▸ hb)) (kp5' b o (kp' b o e))
        · exact ((hns₂.at' fun o e => kp' _ o e).at' fun o e => kp5' _ o e).at' fun o e => sb _ o (by omega) e
        · rw [List.range_succ, List.filterMap_append]
          simp only [List.filterMap_cons, hd, List.filterMap_nil]
          refine All2.snoc (mono _ _ _ _ (fun b o b1 b2 b3 e => sb b o b2 e) hrel) (ha₂.mono fun v x r => mono _ _ _ _ (fun b o b1 b2 b3 e => sb b o b2 (kp5' b o (kp' b o e))) r)
        · exact fun b o hb e => sb b o (ltN_ne (below b o e) 0) (kp5' b o (kp' b o (hkk b o hb e)))
    · have hi' : i = n := by omega
      subst hi'
      refine It.done _ _ hst' fun h₂ tk₂ hk₂ => ?_
      exact fin h₂ tk₂ m' ys (hns'.at' fun o e => hk₂ _ o nWC e) (hl'.at fun o e => hk₂ _ o nWD e)
        (ha.mono fun v x r => mono _ _ _ _ (fun b o b1 _ _ e => hk₂ b o b1 e) r) fun b o hb e => hk₂ b o hb (hk b o hb e)
  refine codeAny_compStart_list (loop _ rfl) ?_
  refine wpAny_mono (It.self _ (fun it' s' => codeAny (model prog w) A (.compLoop (.ListComp elt [⟨T, iter, ifs, 0⟩] scope pos) 0 it' (.ref N2) (compEnvC scope cl (N2 + 1) env)) (RR (.ref N2) (N2 + 1)) s')
    (It.frame _ _ _ hst fun b o _ e => old b o e) (loop _ rfl)) (fun _ _ x => x) F0_mono
end
end
section
open PySem PySem.W PyProof.Rows PySem.Calls PySem.Spec
def upd (m : Str → Option Value) : List (Str × Value) → (Str → Option Value)
  | [] => m
  | p :: r => upd (fun y => if y = p.1 then some p.2 else m y) r

inductive Nms : List Expr → List Str → Prop
  | nil : Nms [] []
  | cons {x p es xs} : Nms es xs → Nms (.Name x p :: es) (x :: xs)

section
variable {prog : Program} {w : World} {A : Around} {s : Shared} {env : Env}

theorem bind_name {x : Str} {px : Pos} {v : Value} {m : Str → Option Value} {Q : Unit → Shared → Prop} (hl : env.kindOf x = some .local) (hk : env.scope.kind = .function) (hn : s.heap.Ns env.locals m)
    (h : ∀ h', h'.Ns env.locals (fun y => if y = x then some v else m y) → Heap.SameBut env.locals s.heap h' → Q () { s with heap := h', toks := s.toks + 1 }) :
    wpAny (model prog w) A (assign (.Name x px) env v) Q F0 s :=
  wpAny_assign_Name (wpAny_storeName_local hl hn h (by rw [hk]; rfl))

theorem assign_names : ∀ {elts : List Expr} {xs : List Str}, Nms elts xs → ∀ (vs : List Value) (s : Shared) (m : Str → Option Value) (Q : Unit → Shared → Prop), vs.length = xs.length →
    (∀ x ∈ xs, env.kindOf x = some .local) → env.scope.kind = .function → s.heap.Ns env.locals m →
    (∀ h' tk, h'.Ns env.locals (upd m (xs.zip vs)) → (∀ b o, b ≠ env.locals → s.heap.get? b = some o → h'.get? b = some o) → Q () { s with heap := h', toks := tk }) →
    wpAny (model prog w) A (assignInOrder ((assignEach elts env).map (·.2)) vs) Q F0 s
  | _, _, .nil, vs, s, m, Q, hl, _, _, hn, h => by
    cases vs with
    | cons _ _ => simp at hl
    | nil => exact assignInOrder_nil (h s.heap s.toks hn fun _ _ _ e => e)
  | _, _, .cons (x := x) (p := p) (es := es) (xs := xs) r, vs, s, m, Q, hl, hx, hk, hn, h => by
    cases vs with
    | nil => simp at hl
    | cons v vs =>
      show wpAny _ _ (assignInOrder (assign (.Name x p) env :: (assignEach es env).map (·.2)) (v :: vs)) Q F0 s
      refine assignInOrder_cons (bind_name (hx x (.head _)) hk hn fun h' hn' hs' => ?_)
      refine assign_names r vs _ _ Q (by simpa using hl) (fun y hy => hx y (.tail _ hy)) hk hn' fun h'' tk hn'' hk'' => h h'' tk hn'' fun b o hb e => hk'' b o hb (hs'.extBut b o hb e)

theorem nms_len : ∀ {elts : List Expr} {xs : List Str}, Nms elts xs → (assignEach elts env).length = xs.length
  | _, _, .nil => rfl
  | _, _, .cons (x := x) (p := p) (es := es) r => by
    show ((false, assign (.Name x p) env) :: assignEach es env).length = _
    simp [nms_len r]
theorem nms_star : ∀ {elts : List Expr} {xs : List Str}, Nms elts xs → (assignEach elts env).findIdx? (·.1) = none
  | _, _, .nil => rfl
  | _, _, .cons (x := x) (p := p) (es := es) r => by
    show (((false, assign (.Name x p) env) : Bool × (Value → Sem Unit)) :: assignEach es env).findIdx? (·.1) = none
    rw [List.findIdx?_cons]
    simp [nms_star r]

theorem assign_tup {elts : List Expr} {xs : List Str} {k : Nat} {tp : Pos} {t : Addr} {vs : List Value} {m : Str → Option Value} {Q : Unit → Shared → Prop} (hh : A.handled = none) (hE : Nms elts xs) (ht : IsTup s.heap t vs.toArray)
    (hlen : vs.length = xs.length) (hloc : ∀ x ∈ xs, env.kindOf x = some .local) (hk : env.scope.kind = .function) (hn : s.heap.Ns env.locals m)
    (h : ∀ h' tk, h'.Ns env.locals (upd m (xs.zip vs)) → (∀ b o, b ≠ env.locals → s.heap.get? b = some o → h'.get? b = some o) → Q () { s with heap := h', toks := tk }) :
    wpAny (model prog w) A (assign (.Tuple elts k tp) env (.ref t)) Q F0 s := by
  refine assign_Tuple_tuple hh ht (by rw [nms_len hE, List.size_toArray, hlen]) (nms_star hE) fun h' he => ?_
  have kp : Kp s.heap h' := fun b o e => he b o (Nat.ne_of_lt (Heap.lt_size e)) e
  refine assign_names hE _ _ m Q (by simpa using hlen) hloc hk (hn.at' fun o e => kp _ o e) fun h'' tk hn'' hk'' => ?_
  refine h h'' tk (by simpa using hn'') fun b o hb e => hk'' b o hb (kp b o e)

theorem Iter.name {x : Str} {px : Pos} {ev : Addr → Env} {I : Addr} {fp wr : List Addr} {n : Nat} {P : Nat → Value → Prop} {St : Nat → Heap → Prop} {S : Nat → Prop} {g : Heap}
    (Wk : Walks prog w A I fp wr n P St) (hl : ∀ C, (ev C).kindOf x = some .local) (hk : ∀ C, (ev C).scope.kind = .function) (hS : ∀ b, S b → b ∉ wr) :
    Iter prog w A (.Name x px) ev I n (· ∈ wr) (fun b => S b ∨ b ∈ fp) (fun i h => St i h ∧ ∀ b o, S b → g.get? b = some o → h.get? b = some o)
      (fun i m m' => ∃ v, P i v ∧ m' = upd m [(x, v)]) where
  sub := fun b hb => .inr (Wk.sub b hb)
  frame := fun i h h' st hk' => ⟨Wk.frame i h h' st.1 fun b hb o e => hk' b o (.inr hb) e, fun b o hb e => hk' b o (.inl hb) (st.2 b o hb e)⟩
  item := fun i s C m Q hi st hC hloc hn hQ => by
    have hCw : C ∉ wr := fun q => hC (.inr (Wk.sub C q))
    refine Wk.item i s _ _ hi st.1 fun v h' tk hP st' hk' => ?_
    show wpAny _ _ (letOwnedTupleGo (.Name x px) (.ref I) v) _ _ _
    refine wpAny_pure ?_
    have hn' : h'.Ns (ev C).locals m := by rw [hloc]; exact hn.at' fun o e => hk' C o hCw e
    refine bind_name (hl C) (hk C) hn' fun h'' hn'' hs'' => ?_
    rw [hloc] at hn'' hs''
    refine hQ h'' _ _ ⟨Wk.frame _ _ _ st' fun b hb o e => hs''.extBut b o (fun q => hC (.inr (q ▸ hb))) e, fun b o hb e => ?_⟩ hn'' ⟨v, hP, rfl⟩ fun b o hb hbC e => hs''.extBut b o hbC (hk' b o hb e)
    exact hs''.extBut b o (fun q => hC (.inl (q ▸ hb))) (hk' b o (hS b hb) (st.2 b o hb e))
  done := fun s Q st hQ => Wk.done s Q F0 st.1 hQ
  self := fun s Q st hQ => Wk.self 0 s Q F0 st.1 hQ

theorem Iter.tup {elts : List Expr} {xs : List Str} {k : Nat} {tp : Pos} {ev : Addr → Env} {I : Addr} {fp wr : List Addr} {n : Nat} {P : Nat → Value → Prop} {St : Nat → Heap → Prop} {S : Nat → Prop} {g : Heap} {B : Nat → List Value → Prop}
    (Wk : Walks prog w A I fp wr n P St) (hE : Nms elts xs) (hh : A.handled = none) (hl : ∀ C, ∀ x ∈ xs, (ev C).kindOf x = some .local) (hk : ∀ C, (ev C).scope.kind = .function) (hS : ∀ b, S b → b ∉ wr)
    (go : ∀ i T (s : Shared) (Q : Unit → Shared → Prop), St (i + 1) s.heap → Q () s → wpAny (model prog w) A (letOwnedTupleGo (.Tuple elts k tp) (.ref I) (.ref T)) Q F0 s)
    (its : ∀ i v, i < n → P i v → ∃ t vs, v = .ref t ∧ S t ∧ IsTup g t vs.toArray ∧ vs.length = xs.length ∧ B i vs) :
    Iter prog w A (.Tuple elts k tp) ev I n (· ∈ wr) (fun b => S b ∨ b ∈ fp) (fun i h => St i h ∧ ∀ b o, S b → g.get? b = some o → h.get? b = some o)
      (fun i m m' => ∃ vs, B i vs ∧ vs.length = xs.length ∧ m' = upd m (xs.zip vs)) where
  sub := fun b hb => .inr (Wk.sub b hb)
  frame := fun i h h' st hk' => ⟨Wk.frame i h h' st.1 fun b hb o e => hk' b o (.inr hb) e, fun b o hb e => hk' b o (.inl hb) (st.2 b o hb e)⟩
  item := fun i s C m Q hi st hC hloc hn hQ => by
    have hCw : C ∉ wr := fun q => hC (.inr (Wk.sub C q))
    refine Wk.item i s _ _ hi st.1 fun v h' tk hP st' hk' => ?_
    obtain ⟨t, vs, rfl, hSt, ht, hlen, hB⟩ := its i v hi hP
    refine go i t _ _ st' ?_
    have hn' : h'.Ns (ev C).locals m := by rw [hloc]; exact hn.at' fun o e => hk' C o hCw e
    have hSk : ∀ b o, S b → g.get? b = some o → h'.get? b = some o := fun b o hb e => hk' b o (hS b hb) (st.2 b o hb e)
    have ht' : IsTup h' t vs.toArray := let ⟨o, ho, r⟩ := ht; ⟨o, hSk t o hSt ho, r⟩
    refine assign_tup hh hE ht' hlen (hl C) (hk C) hn' fun h'' tk'' hn'' hk'' => ?_
    rw [hloc] at hn'' hk''
    refine hQ h'' _ _ ⟨Wk.frame _ _ _ st' fun b hb o e => hk'' b o (fun q => hC (.inr (q ▸ hb))) e, fun b o hb e => ?_⟩ hn'' ⟨vs, hB, hlen, rfl⟩ fun b o hb hbC e => hk'' b o hbC (hk' b o hb e)
    exact hk'' b o (fun q => hC (.inl (q ▸ hb))) (hSk b o hb e)
  done := fun s Q st hQ => Wk.done s Q F0 st.1 hQ
  self := fun s Q st hQ => Wk.self 0 s Q F0 st.1 hQ

theorem go_listiter {elts : List Expr} {k : Nat} {tp : Pos} {I l T : Addr} {i : Nat} {s : Shared} {Q : Unit → Shared → Prop} (hit : s.heap.IsListIter I l i) (hQ : Q () s) :
    wpAny (model prog w) A (letOwnedTupleGo (.Tuple elts k tp) (.ref I) (.ref T)) Q F0 s := wpAny_letOwnedTupleGo_listiter hit hQ
theorem go_tupiter {elts : List Expr} {k : Nat} {tp : Pos} {I l T : Addr} {i : Nat} {s : Shared} {Q : Unit → Shared → Prop} (hit : s.heap.IsTupleIter I l i) (hQ : Q () s) :
    wpAny (model prog w) A (letOwnedTupleGo (.Tuple elts k tp) (.ref I) (.ref T)) Q F0 s := by
  obtain ⟨o, ho, hc, hd⟩ := hit
  unfold letOwnedTupleGo
  refine wpAny_bind (wpAny_load ho ?_)
  rw [hc, hd]
  show wpAny _ A (if (["enumerate", "zip", "dict_itemiterator", "dict_reverseitemiterator", "odict_iterator", "itertools.zip_longest", "itertools.pairwise"].contains "tuple_iterator" &&
      (#[.ref l, .int i 0] : Array Value)[0]? == some (rawInt T)) = true then _ else _) Q F0 s
  rw [if_neg (by
    intro h
    rw [show (["enumerate", "zip", "dict_itemiterator", "dict_reverseitemiterator", "odict_iterator", "itertools.zip_longest", "itertools.pairwise"].contains "tuple_iterator") = false from by decide, Bool.false_and] at h
    cases h)]
  exact wpAny_pure hQ
end
end
section
open PySem PySem.W PyProof.Rows PySem.Calls PySem.Spec
noncomputable def eqB {α : Type} (a b : α) : Bool := @decide (a = b) (Classical.propDecidable _)
theorem eqB_true {α : Type} {a b : α} : eqB a b = true ↔ a = b := by unfold eqB; exact @decide_eq_true_iff _ (Classical.propDecidable _)
theorem eqB_self {α : Type} (a : α) : eqB a a = true := eqB_true.mpr rfl
theorem eqB_false {α : Type} {a b : α} : eqB a b = false ↔ a ≠ b := by unfold eqB; exact @decide_eq_false_iff_not _ (Classical.propDecidable _)

mutual
inductive Rd (S : Nat → Prop) (h : Heap) : Value → Dat → Prop
  | none : Rd S h .none .none
  | str (x : Str) (t : Tok) : Rd S h (.str x t) (.str x)
  | tup {a : Addr} {o : Obj} {vs : Array Value} {n : Nat} {ds : List Dat} : S a → h.get? a = some o → o.cls = .type "tuple" → o.data = .seq vs n → RdAll S h vs.toList ds → Rd S h (.ref a) (.tuple ds)
inductive RdAll (S : Nat → Prop) (h : Heap) : List Value → List Dat → Prop
  | nil : RdAll S h [] []
  | cons {v : Value} {vs : List Value} {d : Dat} {ds : List Dat} : Rd S h v d → RdAll S h vs ds → RdAll S h (v :: vs) (d :: ds)
end

section
variable {S S' : Nat → Prop} {h h' : Heap}
mutual
theorem Rd.mono (hk : ∀ b o, S b → h.get? b = some o → S' b ∧ h'.get? b = some o) : ∀ {v : Value} {d : Dat}, Rd S h v d → Rd S' h' v d
  | _, _, .none => .none
  | _, _, .str x t => .str x t
  | _, _, .tup hS ho hc hd r => .tup (hk _ _ hS ho).1 (hk _ _ hS ho).2 hc hd (RdAll.mono hk r)
theorem RdAll.mono (hk : ∀ b o, S b → h.get? b = some o → S' b ∧ h'.get? b = some o) : ∀ {vs : List Value} {ds : List Dat}, RdAll S h vs ds → RdAll S' h' vs ds
  | _, _, .nil => .nil
  | _, _, .cons a r => .cons (Rd.mono hk a) (RdAll.mono hk r)
end
mutual
theorem Rd.reads : ∀ {v : Value} {d : Dat}, Rd S h v d → ∃ as, Reads h v (kqdP d) as
  | _, _, .none => ⟨_, by rw [kqdP]; exact .none⟩
  | _, _, .str x t => ⟨_, by rw [kqdP]; exact .str x t⟩
  | _, _, .tup _ ho hc hd r => let ⟨as, q⟩ := RdAll.reads r; ⟨as, by rw [kqdP]; exact .tuple ho hc hd q⟩
theorem RdAll.reads : ∀ {vs : List Value} {ds : List Dat}, RdAll S h vs ds → ∃ as, ReadsAll h vs (kqdPs ds) as
  | _, _, .nil => ⟨_, by rw [kqdPs]; exact .nil⟩
  | _, _, .cons a r => let ⟨as, q⟩ := Rd.reads a; let ⟨bs, p⟩ := RdAll.reads r; ⟨_, by rw [kqdPs]; exact .cons q p⟩
end
theorem Rd.tup_inv {v : Value} {ds : List Dat} (r : Rd S h v (.tuple ds)) : ∃ a vs, v = .ref a ∧ S a ∧ IsTup h a vs.toArray ∧ RdAll S h vs ds := by
  cases r with
  | tup hS ho hc hd r => exact ⟨_, _, rfl, hS, ⟨_, ho, hc, _, by simpa using hd⟩, r⟩
theorem Rd.of_tup {a : Addr} {vs : List Value} {ds : List Dat} (hS : S a) (ht : IsTup h a vs.toArray) (r : RdAll S h vs ds) : Rd S h (.ref a) (.tuple ds) := by
  obtain ⟨o, ho, hc, n, hd⟩ := ht
  exact .tup hS ho hc hd (by simpa using r)
theorem Rd.str_inv {v : Value} {x : Str} (r : Rd S h v (.str x)) : ∃ t, v = .str x t := by cases r; exact ⟨_, rfl⟩
theorem Rd.none_inv {v : Value} (r : Rd S h v .none) : v = .none := by cases r; rfl
theorem RdAll.cons_inv {vs : List Value} {d : Dat} {ds : List Dat} (r : RdAll S h vs (d :: ds)) : ∃ v ws, vs = v :: ws ∧ Rd S h v d ∧ RdAll S h ws ds := by
  cases r with
  | cons a r => exact ⟨_, _, rfl, a, r⟩
theorem RdAll.nil_inv {vs : List Value} (r : RdAll S h vs []) : vs = [] := by cases r; rfl
theorem RdAll.length : ∀ {vs : List Value} {ds : List Dat}, RdAll S h vs ds → vs.length = ds.length
  | _, _, .nil => rfl
  | _, _, .cons _ r => by simp [r.length]
theorem RdAll.get : ∀ {vs : List Value} {ds : List Dat}, RdAll S h vs ds → ∀ {i : Nat} {v : Value}, vs[i]? = some v → ∃ d, ds[i]? = some d ∧ Rd S h v d
  | _, _, .nil, i, v, e => by simp at e
  | _, _, .cons a r, 0, v, e => by simp at e; subst e; exact ⟨_, rfl, a⟩
  | _, _, .cons a r, i + 1, v, e => by simpa using r.get (by simpa using e)
theorem RdAll.get' : ∀ {vs : List Value} {ds : List Dat}, RdAll S h vs ds → ∀ {i : Nat} {d : Dat}, ds[i]? = some d → ∃ v, vs[i]? = some v ∧ Rd S h v d
  | _, _, .nil, i, v, e => by simp at e
  | _, _, .cons a r, 0, v, e => by simp at e; subst e; exact ⟨_, rfl, a⟩
  | _, _, .cons a r, i + 1, v, e => by simpa using r.get' (by simpa using e)
theorem RdAll.of_all2 {δ : Type} {f : δ → Dat} {R : Value → δ → Prop} (hR : ∀ v x, R v x → Rd S h v (f x)) : ∀ {vs : List Value} {xs : List δ}, All2 R vs xs → RdAll S h vs (xs.map f)
  | _, _, .nil => .nil
  | _, _, .cons a r => .cons (hR _ _ a) (RdAll.of_all2 hR r)
theorem RdAll.append {vs ws : List Value} {ds es : List Dat} : RdAll S h vs ds → RdAll S h ws es → RdAll S h (vs ++ ws) (ds ++ es)
  | .nil, k => k
  | .cons a r, k => .cons a (r.append k)
end

abbrev RdT (h : Heap) (v : Value) (d : Dat) : Prop := Rd (fun _ => True) h v d
abbrev RdsT (h : Heap) (vs : List Value) (ds : List Dat) : Prop := RdAll (fun _ => True) h vs ds
theorem Rd.keep {S : Nat → Prop} {h h' : Heap} {v : Value} {d : Dat} (r : Rd S h v d) (hk : Kp h h') : Rd S h' v d := r.mono fun b o hb e => ⟨hb, hk b o e⟩
theorem RdAll.keep {S : Nat → Prop} {h h' : Heap} {v : List Value} {d : List Dat} (r : RdAll S h v d) (hk : Kp h h') : RdAll S h' v d := r.mono fun b o hb e => ⟨hb, hk b o e⟩
theorem Rd.top {S : Nat → Prop} {h : Heap} {v : Value} {d : Dat} (r : Rd S h v d) : RdT h v d := r.mono fun b o _ e => ⟨trivial, e⟩
theorem RdAll.top {S : Nat → Prop} {h : Heap} {v : List Value} {d : List Dat} (r : RdAll S h v d) : RdsT h v d := r.mono fun b o _ e => ⟨trivial, e⟩
theorem Rd.low {S : Nat → Prop} {h : Heap} {v : Value} {d : Dat} (r : Rd S h v d) : Rd (fun b => b < h.objs.size) h v d := r.mono fun b o _ e => ⟨Heap.lt_size e, e⟩
theorem RdAll.low {S : Nat → Prop} {h : Heap} {v : List Value} {d : List Dat} (r : RdAll S h v d) : RdAll (fun b => b < h.objs.size) h v d := r.mono fun b o _ e => ⟨Heap.lt_size e, e⟩

section
variable {prog : Program} {w : World} {A : Around} {s : Shared} {S S' : Nat → Prop} {Q : Value → Shared → Prop}
theorem kqd_eqB {d e : Dat} {n k : Nat} (hd : kqdOk n d = true) (he : kqdOk k e = true) : PyData.eqv (kqdP d) (kqdP e) = eqB d e := by
  have q := kqd_eqv n d e k hd he
  by_cases hq : d = e
  · rw [eqB_true.mpr hq]; exact q.mpr hq
  · rw [eqB_false.mpr hq]; exact Bool.eq_false_iff.mpr fun x => hq (q.mp x)
theorem kqd_shaped {d : Dat} {n : Nat} (hn : n ≤ 64) (hd : kqdOk n d = true) : SeqAt.shaped (kqdP d) = true := by
  have l := kqd_lay n d hd
  unfold SeqAt.shaped
  rw [l.1, Bool.true_and]
  exact decide_eq_true (Nat.le_trans l.2 hn)
theorem kqdOk_list {n : Nat} {ds : List Dat} (h : ∀ d ∈ ds, kqdOk n d = true) : kqdOk (n + 1) (.list ds) = true := by simpa [kqdOk] using h

theorem ne_rd {a b : Value} {d e : Dat} (ha : Rd S s.heap a d) (hb : Rd S' s.heap b e) (hd : kqdOk 8 d = true) (he : kqdOk 8 e = true) (hu : A.units + 64 < cLine) (h : Q (.bool (!eqB d e)) s) :
    wpAny (model prog w) A (compareOp .NotEq a b) Q F0 s := by
  obtain ⟨as, ra⟩ := ha.reads
  obtain ⟨bs, rb⟩ := hb.reads
  exact ne_dataH ra rb (kqd_shaped (by decide) hd) (kqd_shaped (by decide) he) hu (by rw [kqd_eqB hd he]; exact h)
theorem ne_lists {a b : Addr} {xs ys : List Value} {ds es : List Dat} (ha : s.heap.IsList a xs.toArray) (hb : s.heap.IsList b ys.toArray) (ra : RdAll S s.heap xs ds) (rb : RdAll S' s.heap ys es)
    (hd : ∀ d ∈ ds, kqdOk 8 d = true) (he : ∀ d ∈ es, kqdOk 8 d = true) (hu : A.units + 64 < cLine) (h : Q (.bool (!eqB ds es)) s) :
    wpAny (model prog w) A (compareOp .NotEq (.ref a) (.ref b)) Q F0 s := by
  obtain ⟨as, ra⟩ := ra.reads
  obtain ⟨bs, rb⟩ := rb.reads
  obtain ⟨oa, hoa, hca, na, hda⟩ := ha
  obtain ⟨ob, hob, hcb, nb, hdb⟩ := hb
  have r1 : Reads s.heap (.ref a) (kqdP (.list ds)) (a :: as) := by rw [kqdP]; exact .list hoa hca hda (by simpa using ra)
  have r2 : Reads s.heap (.ref b) (kqdP (.list es)) (b :: bs) := by rw [kqdP]; exact .list hob hcb hdb (by simpa using rb)
  have e : eqB (Dat.list ds) (Dat.list es) = eqB ds es := by
    by_cases hq : ds = es
    · rw [hq, eqB_self, eqB_self]
    · rw [eqB_false.mpr hq, eqB_false.mpr fun x => hq (by injection x)]
  exact ne_dataH r1 r2 (kqd_shaped (by decide) (kqdOk_list hd)) (kqd_shaped (by decide) (kqdOk_list he)) hu (by rw [kqd_eqB (kqdOk_list hd) (kqdOk_list he), e]; exact h)
end
end
section
open PySem PySem.W PyProof.Rows PySem.Calls PySem.Spec
abbrev kt (prog : Program) (w : World) : HeapKind prog w (List Str) := tupleKind (PySem.strKind prog w)

theorem itemsAre {prog : Program} {w : World} {S : Nat → Prop} {h : Heap} : ∀ {vs : List Value} {xs : List Str}, RdAll S h vs (xs.map Dat.str) → ItemsAre (PySem.strKind prog w) xs vs
  | vs, [], r => by rw [r.nil_inv]; exact .nil
  | vs, x :: xs, r => by
    obtain ⟨v, ws, rfl, a, r'⟩ := RdAll.cons_inv r
    obtain ⟨t, rfl⟩ := a.str_inv
    exact .cons (by show Value.isStrOf x (.str x t) = true; simp [Value.isStrOf]) (itemsAre r')
theorem key_of {prog : Program} {w : World} {S : Nat → Prop} {h : Heap} {v : Value} {xs : List Str} (r : Rd S h v (.tuple (xs.map Dat.str))) : ∃ a, v = .ref a ∧ S a ∧ (kt prog w).is h xs a := by
  obtain ⟨a, vs, rfl, hS, ⟨o, ho, hc, n, hd⟩, r⟩ := r.tup_inv
  exact ⟨a, rfl, hS, o, _, n, ho, hc, hd, by simpa using itemsAre r⟩

section
variable {prog : Program} {w : World} {A : Around} {s : Shared}

set_option maxHeartbeats 1000000 in
theorem getAttr?_keys_list {a : Addr} {xs : Array Value} {Q : Option Value → Shared → Prop} (hl : s.heap.PlainList a xs) (hA : A.handled = none)
    (h : ∀ h' tk, Kp s.heap h' → Q none { s with heap := h', toks := tk }) : wpAny (model prog w) A (getAttr? (.ref a) "keys") Q F0 s := by
  obtain ⟨k, hx⟩ := hl
  have hmiss : typeLookup (.type "list") "keys" = pure none := by rw [typeLookup_type, builtinLookup_eq_fast]; kernel_rfl
  obtain ⟨hp, g, d, tk, os⟩ := s
  have hT : ∀ tk', (⟨hp, g, d, tk', os⟩ : Shared).TypeIs (.ref a) "list" := fun _ => ⟨_, hx, rfl⟩
  have f1 := sub_AttributeError
  have f3 := F.slot_list_getattribute.lookup
  have f4 := F.slot_list_getattribute.bind (.ref a)
  have f5 := am_list_getattr_none
  unfold getAttr? getAttrBy? getAttrBy
  repeat (any_goals (first | assumption | exact hT _ | ((with_reducible show wpAny _ _ (call (Value.builtin "list.__getattribute__") _ _) _ _ _); refine call_meets F.slot_list_getattribute (hT _) am_entry_list_getattribute (F.args_list_getattribute_2 _ _) (meets_getattribute_miss_list a xs k #[] (Str.ofString "keys") _ hmiss (by decide) (by decide)) ⟨hx, hA, fun h' tk' e hx' => ?_⟩) | wp_step))
  obtain ⟨t', u', he⟩ := hx'.there
  show wpAny _ _ (getattributeRaised _ _ _ _ _ _ _) _ _ _
  unfold getattributeRaised
  repeat (any_goals (first | assumption | wp_step))
  exact h _ _ hx'.keeps

theorem entry_update_loop : entryFor table "dict.update.loop" = some Builtin.«dict.update.loop» := entryFor_of_tree (by kernel_rfl)
theorem plain_update_loop : plainId "dict.update.loop" = true := by decide +kernel

def PairAt (prog : Program) (w : World) (h : Heap) (v : Value) (x : List Str × Addr × Value) : Prop :=
  ∃ p, v = .ref p ∧ IsTup h p #[.ref x.2.1, x.2.2] ∧ (kt prog w).is h x.1 x.2.1
theorem PairAt.keep {h h' : Heap} {v : Value} {x : List Str × Addr × Value} (r : PairAt prog w h v x) (hk : ∀ b o, h.get? b = some o → o.cls = .type "tuple" → h'.get? b = some o) : PairAt prog w h' v x := by
  obtain ⟨p, rfl, ⟨o, ho, hc, r⟩, o2, it, n, ho2, hc2, r2⟩ := r
  exact ⟨p, rfl, ⟨o, hk _ _ ho hc, hc, r⟩, o2, it, n, hk _ _ ho2 hc2, hc2, r2⟩

theorem tup_items {t : Addr} {vs : Array Value} {Q : List Value → Shared → Prop} (ht : IsTup s.heap t vs) (h : Q vs.toList s) : wpAny (model prog w) A (Builtin.Dict.pairItems (.ref t)) Q F0 s := by
  have hT := ht.typeIs
  obtain ⟨o, ho, hc, n, hd⟩ := ht
  unfold Builtin.Dict.pairItems
  refine wpAny_bind (wpAny_typeOf hT ?_)
  rw [if_pos (by decide)]
  exact wpAny_bind (wpAny_seqItems ho hd (wpAny_pure h))

theorem update_loop {d it l : Addr} {items : Array Value} {R : Result → Shared → Prop} (hh : A.handled = none) (hu : A.units + 1 < cLine) (hne : l ≠ it) (hdi : d ≠ it) (hdl : d ≠ l) (hsz : items.size ≤ sizeLine)
    (xs : List (List Str × Addr × Value)) (hnd : (xs.map (·.1)).Nodup) : ∀ (n i : Nat) (j : Int) (s : Shared), n + i = items.size → xs.length = items.size → s.heap.IsListIter it l i → s.heap.PlainList l items →
    All2 (PairAt prog w s.heap) items.toList xs → s.heap.DictOfH (kt prog w) d (xs.take i) →
    (∀ h' tk, h'.DictOfH (kt prog w) d xs → (∀ b o, b ≠ d → b ≠ it → s.heap.get? b = some o → h'.get? b = some o) → R (.ok (.ret .none)) { s with heap := h', toks := tk }) →
    codeAny (model prog w) A (.builtin "dict.update.loop" ⟨[.ref d, .ref it, rawInt j, .none], []⟩) R s := by
  intro n
  induction n with
  | zero =>
    intro i j s hn hlen hit hl hp hm hR
    refine codeAny_builtin entry_update_loop ?_
    rw [Around.under_plainId plain_update_loop]
    unfold Builtin.«dict.update.loop»
    refine wpAny_bind (wpAny_pyNext_list_end (by simpa using hh) hit hl.isList (by simp; omega) fun h' he => ?_)
    show wpAny _ _ (Builtin.Dict.addKeywords d [] >>= _) _ _ _
    refine wpAny_bind (wpAny_pure (wpAny_pure ?_))
    have e : xs.take i = xs := List.take_of_length_le (by omega)
    rw [e] at hm
    obtain ⟨o, es, ep, ho, hx, hd, hes, his, hnd'⟩ := hm
    exact hR h' s.toks ⟨o, es, ep, he _ _ hdi ho, hx, hd, hes, fun x hx => (by
      obtain ⟨o2, it2, n2, ho2, hc2, r2⟩ := his x hx
      refine ⟨o2, it2, n2, he _ _ (fun q => ?_) ho2, hc2, r2⟩
      obtain ⟨oi, hoi, hci, _⟩ := hit
      rw [q, hoi] at ho2; cases ho2; rw [hci] at hc2; simp at hc2), hnd'⟩ fun b o _ hb e => he b o hb e
  | succ n ih =>
    intro i j s hn hlen hit hl hp hm hR
    refine codeAny_builtin entry_update_loop ?_
    rw [Around.under_plainId plain_update_loop]
    unfold Builtin.«dict.update.loop»
    have hi : i < items.size := by omega
    obtain ⟨v, hv, p, rfl, htup, hkey⟩ := hp.get (i := i) (List.getElem?_eq_getElem (h := by omega))
    refine wpAny_bind (wpAny_pyNext_list_item hit hl.isList (x := .ref p) (by simpa using hv) fun h₁ hit₁ hs₁ => ?_)
    have ne_of : ∀ {h : Heap} {a b : Addr} {o o' : Obj}, h.get? a = some o → h.get? b = some o' → o.cls ≠ o'.cls → a ≠ b := fun ea eb hc q => by subst q; rw [ea] at eb; cases eb; exact hc rfl
    obtain ⟨oi, hoi, hci, hdi'⟩ := id hit
    obtain ⟨om, es, ep, hom, hx, hdm, hes, his, hnd'⟩ := id hm
    have kt1 : ∀ b o, s.heap.get? b = some o → o.cls = .type "tuple" → h₁.get? b = some o := fun b o e hc => hs₁.extBut b o (ne_of e hoi (by rw [hc, hci]; decide)) e
    have htup₁ : IsTup h₁ p #[.ref (xs[i]).2.1, (xs[i]).2.2] := let ⟨o, ho, hc, r⟩ := htup; ⟨o, kt1 _ _ ho hc, hc, r⟩
    have hkey₁ : (kt prog w).is h₁ (xs[i]).1 (xs[i]).2.1 := let ⟨o, it, n, ho, hc, r⟩ := hkey; ⟨o, it, n, kt1 _ _ ho hc, hc, r⟩
    have hm₁ : h₁.DictOfH (kt prog w) d (xs.take i) := ⟨om, es, ep, hs₁.extBut _ _ hdi hom, hx, hdm, hes, fun x hx => (let ⟨o, it, n, ho, hc, r⟩ := his x hx; ⟨o, it, n, kt1 _ _ ho hc, hc, r⟩), hnd'⟩
    refine wpAny_bind (wpAny_holding ?_)
    refine wpAny_bind (wpAny_tryCatch (wpAny_mono (tup_items (s := { s with heap := h₁ }) htup₁ ?_) (fun _ _ x => x) F0_mono))
    refine wpAny_holding ?_
    refine wpAny_dictSet_heap (knd := kt prog w) (s := { s with heap := h₁ }) (by exact hu) hkey₁ hm₁ (fun h₂ hm₂ hs₂ => ?_) (by rw [List.length_take]; omega)
    have hnew : atKey (xs.take i) (xs[i]).1 = none := by
      refine atKey_none_of_get fun j q hj => ?_
      have hjl : j < i := by
        have := (List.getElem?_eq_some_iff.mp hj).1
        rw [List.length_take] at this; omega
      have hj' : xs[j]? = some ((xs[i]).1, q) := by rw [List.getElem?_take] at hj; simpa [hjl] using hj
      exact absurd (idxH_unique hnd hj' (List.getElem?_eq_getElem (h := by omega))) (by omega)
    rw [storedH_new hnew] at hm₂
    have htake : xs.take i ++ [((xs[i]).1, (xs[i]).2.1, (xs[i]).2.2)] = xs.take (i + 1) := by rw [List.take_add_one, List.getElem?_eq_getElem (h := by omega)]; rfl
    rw [htake] at hm₂
    have kt2 : ∀ b o, h₁.get? b = some o → o.cls = .type "tuple" → h₂.get? b = some o := fun b o e hc => hs₂.extBut b o (ne_of e (hs₁.extBut _ _ hdi hom) (by rw [hc, hx.1]; decide)) e
    refine wpAny_pure ⟨plainId_quiet plain_update_loop _, ?_⟩
    refine ih (i + 1) _ _ (by omega) hlen ((hit₁.extBut hs₂.extBut (Ne.symm hdi))) ((hl.extBut hs₁.extBut hne).extBut hs₂.extBut (Ne.symm hdl)) ?_ hm₂ fun h' tk hm' hk' => hR h' tk hm' fun b o b1 b2 e => hk' b o b1 b2 (hs₂.extBut b o b1 (hs₁.extBut b o b2 e))
    exact hp.mono fun v x r => r.keep fun b o e hc => kt2 b o (kt1 b o e hc) hc

theorem dict_pairs {l : Addr} {items : Array Value} {xs : List (List Str × Addr × Value)} {Q : Value → Shared → Prop} (hl : s.heap.PlainList l items) (hp : All2 (PairAt prog w s.heap) items.toList xs) (hnd : (xs.map (·.1)).Nodup)
    (hsz : items.size ≤ sizeLine) (hh : A.handled = none) (hu : A.units + 10 < cLine)
    (h : ∀ h' tk d, Kp s.heap h' → d = s.heap.objs.size → h'.DictOfH (kt prog w) d xs → Q (.ref d) { s with heap := h', toks := tk }) :
    wpAny (model prog w) A (call (.type "dict") [.ref l]) Q F0 s := by
  refine callType_codes (Q₁ := fun obj s₁ => obj = .ref s.heap.objs.size ∧ s₁ = { s with heap := s.heap.push { cls := .type "dict", data := .dict #[] } }) F.kt_called_dict (F.kt_typeCall_dict_1 _) F.entry_dict_init (kt_code_dict_new _ ⟨rfl, rfl⟩) ?_
  rintro obj s₁ ⟨rfl, rfl⟩
  have hnew : (s.heap.push { cls := .type "dict", data := .dict #[] }).DictOfH (kt prog w) s.heap.objs.size [] := Heap.DictOfH.new s.heap
  have kp0 : Kp s.heap (s.heap.push { cls := .type "dict", data := .dict #[] }) := fun b o e => Heap.get?_push_of_some _ e
  have hl0 := hl.at fun o e => kp0 _ o e
  have hne : s.heap.objs.size ≠ l := by
    obtain ⟨n, e⟩ := hl
    exact Nat.ne_of_gt (Heap.lt_size e)
  refine ⟨hnew.typeIs, F.args_dict_init_2 _ _, ?_⟩
  unfold Builtin.«dict.__init__»
  refine wpAny_bind ?_
  unfold Builtin.Dict.selfAndRest
  refine wpAny_bind (wpAny_notOrdered_dict hnew.typeIs ?_)
  show wpAny _ _ (pure (s.heap.objs.size, [Value.ref l])) _ _ _
  refine wpAny_pure ?_
  show wpAny _ _ (Builtin.Dict.updateFrom "dict.__init__" s.heap.objs.size (.ref l) [] .none) _ _ _
  unfold Builtin.Dict.updateFrom
  refine wpAny_bind (wpAny_typeOf hl0.isList.typeIs ?_)
  rw [if_pos (by decide)]
  refine wpAny_bind (wpAny_mono (getAttr?_keys_list hl0 (by simpa using hh) fun h₁ tk₁ kp₁ => ?_) (fun _ _ x => x) F0_mono)
  simp only [Option.isNone_none, if_true]
  refine wpAny_bind (wpAny_rule ?_)
  have hl1 := hl0.at fun o e => kp₁ _ o e
  refine wpAny_bind (wpAny_pyIter_list hl1.isList ?_)
  refine wpAny_pure ⟨plainId_quiet plain_update_loop _, ?_⟩
  have kp2 : Kp h₁ (h₁.push { cls := .type "list_iterator", data := .fields #[.ref l, .int 0 0] }) := fun b o e => Heap.get?_push_of_some _ e
  have hd2 : (h₁.push { cls := .type "list_iterator", data := .fields #[.ref l, .int 0 0] }).DictOfH (kt prog w) s.heap.objs.size (xs.take 0) := by
    rw [List.take_zero]
    obtain ⟨o, es, ep, ho, hx, hd, hes, his, hn⟩ := hnew
    exact ⟨o, es, ep, kp2 _ _ (kp₁ _ _ ho), hx, hd, hes, fun x hx => (nomatch hx), List.nodup_nil⟩
  have lts : s.heap.objs.size < h₁.objs.size := by
    obtain ⟨o, es, ep, ho, _⟩ := hnew
    exact Heap.lt_size (kp₁ _ _ ho)
  have ltl : l < h₁.objs.size := by obtain ⟨n, e⟩ := hl1; exact Heap.lt_size e
  refine update_loop (A := A.in1) (by simpa using hh) (by simp; omega) (Nat.ne_of_lt ltl) (Nat.ne_of_lt lts) hne hsz xs hnd items.size 0 0 _ rfl (by have := hp.length; simp at this; omega)
    ⟨_, Heap.get?_push_size _ rfl, rfl, rfl⟩ (hl1.at fun o e => kp2 _ o e) (hp.mono fun v x r => r.keep fun b o e _ => kp2 _ _ (kp₁ _ _ (kp0 _ _ e))) hd2 fun h' tk hm hk => ?_
  refine ⟨rfl, h h' tk _ (fun b o e => ?_) rfl hm⟩
  exact hk b o (Nat.ne_of_lt (Heap.lt_size e)) (Nat.ne_of_lt (Nat.lt_trans (Heap.lt_size e) lts)) (kp2 _ _ (kp₁ _ _ (kp0 _ _ e)))
end
end
section
open PySem PySem.W PyProof.Rows PySem.Calls PySem.Spec
abbrev dobj (es : Array DictEntry) (ep : Nat) : Obj := { cls := .type "dict", dict := none, data := .dict es ep, slots := #[] }
abbrev kiter (d : Addr) (i : Nat) (n ep : Nat) : Obj := { cls := .type "dict_keyiterator", dict := none, data := .fields #[.ref d, .int (i : Int) 0, .int (n : Int) 0, .int (ep : Int) 0], slots := #[] }

section
variable {prog : Program} {w : World} {A : Around} {s : Shared}

theorem dictOfH_raw {h : Heap} {knd : HeapKind prog w (List Str)} {d : Addr} {xs : List (List Str × Addr × Value)} (hm : h.DictOfH knd d xs) :
    ∃ es ep, h.get? d = some (dobj es ep) ∧ es.toList = xs.map (entryOfKey knd) ∧ (∀ x ∈ xs, knd.is h x.1 x.2.1) ∧ (xs.map (·.1)).Nodup := by
  obtain ⟨o, es, ep, ho, hx, hd, hes, his, hn⟩ := hm
  refine ⟨es, ep, ?_, hes, his, hn⟩
  rw [ho]
  obtain ⟨c, dd, dt, sl⟩ := o
  obtain ⟨h1, h2, h3⟩ := hx
  simp only at h1 h2 h3 hd
  subst hd h1
  first | (subst h2; subst h3; rfl) | (subst h3; subst h2; rfl) | simp_all
theorem dictOfH_of {h : Heap} {knd : HeapKind prog w (List Str)} {d : Addr} {xs : List (List Str × Addr × Value)} {es : Array DictEntry} {ep : Nat} (ho : h.get? d = some (dobj es ep)) (hes : es.toList = xs.map (entryOfKey knd))
    (his : ∀ x ∈ xs, knd.is h x.1 x.2.1) (hn : (xs.map (·.1)).Nodup) : h.DictOfH knd d xs := ⟨_, es, ep, ho, ⟨rfl, rfl, rfl⟩, rfl, hes, his, hn⟩

theorem pyIter_raw {d : Addr} {es : Array DictEntry} {ep : Nat} {Q : Value → Shared → Prop} (hd : (d == sysModules) = false) (hm : s.heap.get? d = some (dobj es ep))
    (hQ : Q (.ref s.heap.objs.size) { s with heap := s.heap.push (kiter d 0 es.size ep) }) : wpAny (model prog w) A (pyIter (.ref d)) Q F0 s := by
  have hT : s.TypeIs (.ref d) "dict" := ⟨_, hm, rfl⟩
  refine wpAny_pyIter_slot hT F.slot_dict_iter (wpAny_call_entry F.slot_dict_iter hT F.entry_dict_iter ?_ (F.args_dict_iter_1 _))
  unfold Builtin.«dict.__iter__»
  refine wpAny_bind ?_
  unfold Builtin.Dict.dictSlotNone
  refine wpAny_bind (wpAny_notOrdered_dict hT ?_)
  show wpAny _ _ (pure (Value.ref d)) _ _ s
  refine wpAny_pure ?_
  show wpAny _ _ (Builtin.Dict.showsAll d >>= _) _ _ s
  unfold Builtin.Dict.showsAll
  rw [if_neg (by rw [hd]; exact Bool.false_ne_true)]
  refine wpAny_bind (wpAny_pure ?_)
  refine wpAny_bind (wpAny_dictEntries hm rfl ?_)
  refine wpAny_bind (wpAny_dictEpoch hm rfl ?_)
  exact wpAny_bind (wpAny_newObj_type (wpAny_pure ⟨_, rfl, "dict_keyiterator", _, ⟨_, Heap.get?_push_size _ rfl, rfl⟩, F.slot_dict_keyiterator_next.lookup, hQ⟩))

theorem pyNext_raw_item {it d : Addr} {i n ep : Nat} {es : Array DictEntry} {Q : Option Value → Shared → Prop} (hit : s.heap.get? it = some (kiter d i n ep)) (hm : s.heap.get? d = some (dobj es ep)) (hn : es.size = n) (hi : i < n)
    (hQ : ∀ h', h'.get? it = some (kiter d (i + 1) n ep) → Heap.SameBut it s.heap h' → Q (some (es.getD i default).key) { s with heap := h' }) :
    wpAny (model prog w) A (pyNext (.ref it)) Q F0 s := by
  have hT : s.TypeIs (.ref it) "dict_keyiterator" := ⟨_, hit, rfl⟩
  have hi' : i < es.size := by omega
  unfold pyNext
  refine wpAny_bind (wpAny_attempt (wpAny_callSpecial?_slot (name := Str.ofString "__next__") hT F.slot_dict_keyiterator_next
    (wpAny_call_entry F.slot_dict_keyiterator_next hT F.entry_dict_keyiterator_next ?_ (F.args_dict_keyiterator_next_1 _))))
  refine wpAny_bind (wpAny_pure (wpAny_bind (wpAny_bind (wpAny_bind (wpAny_typeNameOfWhole_keyiter hT (wpAny_pure (wpAny_bind (wpAny_fieldsOf hit rfl ?_))))))))
  simp only [show Builtin.Dict_items.ownsTuple "dict_keyiterator" = false from by decide, Bool.false_eq_true, if_false]
  show wpAny _ _ (if (Value.ref d == Value.none) = true then _ else _) _ _ s
  rw [if_neg (show ¬ ((Value.ref d == Value.none) = true) from Bool.false_ne_true)]
  refine wpAny_bind (wpAny_pure (wpAny_bind (wpAny_dictEntries hm rfl ?_)))
  rw [if_neg (by rw [hn]; simp)]
  refine wpAny_bind (wpAny_pure (wpAny_bind (wpAny_dictEpoch hm rfl ?_)))
  rw [if_neg (by simp)]
  refine wpAny_pure ?_
  simp only [show ¬ ((i : Int) < 0) from by omega, if_false, Int.toNat_natCast, Array.getElem?_eq_getElem hi']
  refine wpAny_bind (wpAny_bind (wpAny_typeNameOfWhole_keyiter hT (wpAny_pure (wpAny_bind (wpAny_isOneOf_keyiter hT ?_)))))
  show wpAny _ _ (setField (.ref it) 1 (rawInt ((i : Int) + 1)) >>= _) _ _ s
  refine wpAny_bind (wpAny_setField hit rfl (by simp) ?_)
  have e := Heap.get?_update_self (Obj.mapFields (·.setIfInBounds 1 (rawInt ((i : Int) + 1)))) hit rfl
  refine wpAny_bind (wpAny_holding (wpAny_bind (wpAny_isOneOf_keyiter (s := { s with heap := s.heap.update it (Obj.mapFields (·.setIfInBounds 1 (rawInt ((i : Int) + 1)))) }) ⟨_, e, rfl⟩ ?_)))
  show wpAny _ _ (pure es[i].key) _ _ _
  have eg : es[i].key = (es.getD i default).key := by simp [Array.getD, hi']
  rw [eg]
  exact wpAny_pure (wpAny_pure ⟨_, rfl, wpAny_pure (hQ _ (by rw [e]; rfl) (Heap.SameBut.update ..))⟩)

theorem pyNext_raw_end {it d : Addr} {n ep : Nat} {es : Array DictEntry} {Q : Option Value → Shared → Prop} (hh : A.handled = none) (hit : s.heap.get? it = some (kiter d n n ep)) (hm : s.heap.get? d = some (dobj es ep)) (hn : es.size = n)
    (hQ : ∀ h', Heap.ExtBut it s.heap h' → Q none { s with heap := h' }) :
    wpAny (model prog w) A (pyNext (.ref it)) Q F0 s := by
  have hT : s.TypeIs (.ref it) "dict_keyiterator" := ⟨_, hit, rfl⟩
  unfold pyNext
  refine wpAny_bind (wpAny_attempt (wpAny_callSpecial?_slot (name := Str.ofString "__next__") hT F.slot_dict_keyiterator_next
    (wpAny_call_entry F.slot_dict_keyiterator_next hT F.entry_dict_keyiterator_next ?_ (F.args_dict_keyiterator_next_1 _))))
  refine wpAny_bind (wpAny_pure (wpAny_bind (wpAny_bind (wpAny_bind (wpAny_typeNameOfWhole_keyiter hT (wpAny_pure (wpAny_bind (wpAny_fieldsOf hit rfl ?_))))))))
  simp only [show Builtin.Dict_items.ownsTuple "dict_keyiterator" = false from by decide, Bool.false_eq_true, if_false]
  show wpAny _ _ (if (Value.ref d == Value.none) = true then _ else _) _ _ s
  rw [if_neg (show ¬ ((Value.ref d == Value.none) = true) from Bool.false_ne_true)]
  refine wpAny_bind (wpAny_pure (wpAny_bind (wpAny_dictEntries hm rfl ?_)))
  rw [if_neg (by rw [hn]; simp)]
  refine wpAny_bind (wpAny_pure (wpAny_bind (wpAny_dictEpoch hm rfl ?_)))
  rw [if_neg (by simp)]
  refine wpAny_pure ?_
  simp only [show ¬ ((n : Int) < 0) from by omega, if_false, Int.toNat_natCast, Array.getElem?_eq_none (show es.size ≤ n by omega)]
  refine wpAny_bind (wpAny_bind (wpAny_typeNameOfWhole_keyiter hT (wpAny_pure ?_)))
  show wpAny _ _ (setField (.ref it) 0 .none >>= _) _ _ s
  refine wpAny_bind (wpAny_setField hit rfl (by simp) ?_)
  show wpAny _ _ (newExc (.type "StopIteration") [] >>= _) _ _ _
  refine wpAny_bind ?_
  simp only [newExc, newTuple]
  refine wpAny_bind (wpAny_newObj_type ?_ (by size_fits))
  refine wpAny_bind (m := firstArgMember _ _) (wpAny_of_eq (a := Value.none) (by first | rfl | (simp only [firstArgMember]; rfl)) ?_)
  refine wpAny_newObj_type ?_ (by size_fits)
  simp only [raiseNew]
  refine wpAny_bind (wpAny_handled ?_)
  rw [show A.in1.handled = none from hh]
  refine wpAny_bind (wpAny_pure (wpAny_throw ?_))
  refine wpAny_bind (wpAny_isInstance (T := "StopIteration") (b := true) ⟨_, Heap.get?_push_size _ rfl, rfl⟩ isSubtype_stop ?_)
  exact wpAny_pure (hQ _ (((Heap.SameBut.update ..).extBut.push _).push _))

theorem pyIter_kiter {it d : Addr} {i n ep : Nat} {Q : Value → Shared → Prop} (hit : s.heap.get? it = some (kiter d i n ep)) (h : Q (.ref it) s) : wpAny (model prog w) A (pyIter (.ref it)) Q F0 s :=
  wpAny_pyIter_keyiter ⟨_, hit, rfl, rfl⟩ h

theorem Walks.dictRaw (hh : A.handled = none) (I d : Addr) (hne : d ≠ I) (es : Array DictEntry) (ep : Nat) :
    Walks prog w A I [I, d] [I] es.size (fun i v => ∃ e, es[i]? = some e ∧ v = e.key) (fun i h => h.get? I = some (kiter d i es.size ep) ∧ h.get? d = some (dobj es ep)) where
  sub := fun b hb => by simp at hb; simp [hb]
  frame := fun _ _ _ st hk => ⟨hk I (by simp) _ st.1, hk d (by simp) _ st.2⟩
  item := fun i s Q E hi st hQ => by
    refine wpAny_mono (pyNext_raw_item (Q := Q) st.1 st.2 rfl hi fun h' hit' hs' => ?_) (fun _ _ x => x) F0_mono
    refine hQ _ h' s.toks ⟨es[i], by simp [hi], by simp [Array.getD, hi]⟩ ⟨hit', hs'.extBut _ _ hne st.2⟩ fun b o hb e => hs'.extBut b o (fun h => hb (by simp [h])) e
  done := fun s Q E st hQ => wpAny_mono (pyNext_raw_end (Q := Q) hh st.1 st.2 rfl fun h' he' => hQ h' s.toks fun b o hb e => he' b o (fun h => hb (by simp [h])) e) (fun _ _ x => x) F0_mono
  self := fun _ _ Q _ st hQ => wpAny_mono (pyIter_kiter (Q := Q) st.1 hQ) (fun _ _ x => x) F0_mono
end
end
section
open PySem PySem.W PyProof.Rows PySem.Calls PySem.Spec
section
variable {prog : Program} {w : World} {A : Around}

theorem but_Fr {h₀ h h' : Heap} {L : Addr} {m m' : Str → Option Value} (F : Fr h₀ L h m) (hn : h'.Ns L m') (hk : ∀ b o, b ≠ L → h.get? b = some o → h'.get? b = some o) : Fr h₀ L h' m' :=
  ⟨hn, fun b o e => hk b o (Nat.ne_of_lt (Nat.lt_of_lt_of_le (Heap.lt_size e) F.above)) (F.keep b o e), F.above⟩
theorem Iter.tupU {elts : List Expr} {xs : List Str} {k : Nat} {tp : Pos} {ev : Addr → Env} {I : Addr} {fp wr : List Addr} {n : Nat} {Pt : Nat → Array Value → Prop} {St : Nat → Heap → Prop} {Mid : Nat → Addr → Heap → Prop}
    {S : Nat → Prop} {g : Heap} {B : Nat → List Value → Prop}
    (Wk : WalksU prog w A I fp wr n Pt St Mid) (hE : Nms elts xs) (hh : A.handled = none) (hl : ∀ C, ∀ x ∈ xs, (ev C).kindOf x = some .local) (hk : ∀ C, (ev C).scope.kind = .function) (hS : ∀ b, S b → b ∉ wr)
    (its : ∀ i vals, i < n → Pt i vals → vals.toList.length = xs.length ∧ B i vals.toList) :
    Iter prog w A (.Tuple elts k tp) ev I n (· ∈ wr) (fun b => S b ∨ b ∈ fp) (fun i h => St i h ∧ ∀ b o, S b → g.get? b = some o → h.get? b = some o)
      (fun i m m' => ∃ vs, B i vs ∧ vs.length = xs.length ∧ m' = upd m (xs.zip vs)) where
  sub := fun b hb => .inr (Wk.sub b hb)
  frame := fun i h h' st hk' => ⟨Wk.frame i h h' st.1 fun b hb o e => hk' b o (.inr hb) e, fun b o hb e => hk' b o (.inl hb) (st.2 b o hb e)⟩
  item := fun i s C m Q hi st hC hloc hn hQ => by
    have hCw : C ∉ wr := fun q => hC (.inr (Wk.sub C q))
    refine Wk.item i s _ _ hi st.1 fun T vals h' tk hP hT hMid hk' => ?_
    obtain ⟨hlen, hB⟩ := its i vals hi hP
    have hTw := Wk.apart i T h' hMid
    refine Wk.go _ _ _ i T _ _ _ hMid fun h₂ st₂ hk₂ => ?_
    have hT₂ : IsTup h₂ T vals.toList.toArray := by
      obtain ⟨o, ho, r⟩ := hT
      exact ⟨o, hk₂ T o hTw ho, by simpa using r⟩
    have hn' : h₂.Ns (ev C).locals m := by rw [hloc]; exact (hn.at' fun o e => hk' C o hCw e).at' fun o e => hk₂ C o hCw e
    have hSk : ∀ b o, S b → g.get? b = some o → h₂.get? b = some o := fun b o hb e => hk₂ b o (hS b hb) (hk' b o (hS b hb) (st.2 b o hb e))
    refine assign_tup hh hE hT₂ hlen (hl C) (hk C) hn' fun h'' tk'' hn'' hk'' => ?_
    rw [hloc] at hn'' hk''
    refine hQ h'' _ _ ⟨Wk.frame _ _ _ st₂ fun b hb o e => hk'' b o (fun q => hC (.inr (q ▸ hb))) e, fun b o hb e => ?_⟩ hn'' ⟨_, hB, hlen, rfl⟩ fun b o hb hbC e => hk'' b o hbC (hk₂ b o hb (hk' b o hb e))
    exact hk'' b o (fun q => hC (.inl (q ▸ hb))) (hSk b o hb e)
  done := fun s Q st hQ => Wk.done s Q F0 st.1 hQ
  self := fun s Q st hQ => Wk.self 0 s Q F0 st.1 hQ

def LcAt (prog : Program) (w : World) (A : Around) (T elt : Expr) (ifs : List Expr) (scope : Scope) (cl : List (Str × Addr)) (env : Env) (Fin : Shared → Shared → Addr → Prop) (it : Value) (s₂ : Shared) : Prop :=
  ∃ (I : Addr) (n : Nat) (W RD : Nat → Prop) (St : Nat → Heap → Prop) (Bd : Nat → (Str → Option Value) → (Str → Option Value) → Prop) (δ : Type) (d : Nat → Option δ) (Rel : Heap → Value → δ → Prop),
    it = .ref I ∧ Iter prog w A T (fun C => compEnvC scope cl C env) I n W RD St Bd ∧ St 0 s₂.heap ∧ (∀ b, RD b → b < s₂.heap.objs.size) ∧ n ≤ sizeLine ∧
    (∀ h h' v x, (∀ b o, ¬ W b → b ≠ s₂.heap.objs.size → b ≠ s₂.heap.objs.size + 1 → h.get? b = some o → h'.get? b = some o) → Rel h v x → Rel h' v x) ∧
    (∀ i (s : Shared) m₀ m, i < n → Bd i m₀ m → s.heap.Ns (s₂.heap.objs.size + 1) m → (∀ b o, ¬ W b → s₂.heap.get? b = some o → s.heap.get? b = some o) →
      wpAny (model prog w) A (forIn ifs true fun c r => if r = true then do let ok ← isTrue c (compEnvC scope cl (s₂.heap.objs.size + 1) env) (eval c (compEnvC scope cl (s₂.heap.objs.size + 1) env)); pure (ForInStep.yield ok) else pure (ForInStep.yield r))
        (fun ok s' => Keeps s s' ∧ ok = (d i).isSome) F0 s) ∧
    (∀ i x (s : Shared) m₀ m, i < n → d i = some x → Bd i m₀ m → s.heap.Ns (s₂.heap.objs.size + 1) m → (∀ b o, ¬ W b → s₂.heap.get? b = some o → s.heap.get? b = some o) →
      wpAny (model prog w) A (eval elt (compEnvC scope cl (s₂.heap.objs.size + 1) env)) (fun y s' => Keeps s s' ∧ Rel s'.heap y x) F0 s) ∧
    (∀ h' tk ys D, D = s₂.heap.objs.size → h'.PlainList D ys.toArray → All2 (Rel h') ys ((List.range n).filterMap d) → (∀ b o, ¬ W b → s₂.heap.get? b = some o → h'.get? b = some o) →
      Fin s₂ { s₂ with heap := h', toks := tk } D)

theorem lc_value {T elt iter : Expr} {ifs : List Expr} {scope : Scope} {cl : List (Str × Addr)} {pos : Pos} {env : Env} {s : Shared} {Q : Value → Shared → Prop}
    (h : wpAny (model prog w) A (eval iter env) (fun x s₁ => wpAny (model prog w) A (pyIter x) (LcAt prog w A T elt ifs scope cl env (fun _ s' D => Q (.ref D) s')) F0 s₁) F0 s)
    (hclos : closureFor scope env = pure cl) (hcell : ∀ y ∈ scope.names, y.2 ≠ .cell) (hkind : scope.kind = .function) (hnames : ∀ x ∈ scope.names, x.2 = .local → scope.names.lookup x.1 = some .local)
    (hs : ∀ x, foldedSetIterable iter env x = pure x := by intro _; rfl) :
    wpAny (model prog w) A (eval (.ListComp elt [⟨T, iter, ifs, 0⟩] scope pos) env) Q F0 s := by
  rw [eval_ListComp]
  refine wpAny_comprehension_free rfl hs hclos hkind hnames ?_
  refine wpAny_mono h (fun x s₁ h₁ => wpAny_mono h₁ (fun it s₂ h₂ => ?_) F0_mono) F0_mono
  obtain ⟨I, n, W, RD, St, Bd, δ, d, Rel, rfl, It, hst, hRD, hn, mono, tests, elts, fin⟩ := h₂
  refine lc_block d Rel rfl It hcell hkind hst hRD hn mono tests elts ?_
  intro h' tk m' ys hns hpl hall hk
  refine ⟨m', hns, fun h'' hs'' => ?_⟩
  refine fin h'' tk ys _ rfl (hpl.at fun o e => hs''.extBut _ _ (Nat.ne_of_lt (Nat.lt_succ_self _)) e) (hall.mono fun v x r => mono _ _ _ _ (fun b o _ _ b3 e => hs''.extBut b o b3 e) r)
    fun b o hb e => hs''.extBut b o (Nat.ne_of_lt (Nat.lt_trans (Heap.lt_size e) (Nat.lt_succ_self _))) (hk b o hb e)

theorem lc_used {T elt iter : Expr} {ifs : List Expr} {scope : Scope} {cl : List (Str × Addr)} {pos spos py : Pos} {y : Str} {env : Env} {s : Shared} {Q : Flow → Shared → Prop}
    (h : wpAny (model prog w) A (eval iter env) (fun x s₁ => wpAny (model prog w) A (pyIter x) (fun it s₂ => ∃ m, s₂.heap.Ns env.locals m ∧ LcAt prog w A T elt ifs scope cl env (fun s₂ s₃ D =>
      s₃.heap.Ns env.locals m ∧ ∀ h' tk, h'.Ns env.locals (fun z => if z = y then some (.ref D) else m z) → (∀ b o, b ≠ env.locals → b ≠ s₂.heap.objs.size + 1 → s₃.heap.get? b = some o → h'.get? b = some o) → Q .next { s₃ with heap := h', toks := tk }) it s₂) F0 s₁) F0 s)
    (hsw : swapsWith (.ListComp elt [⟨T, iter, ifs, 0⟩] scope pos) (some (.Name y py)) spos.line env = pure true := by rfl)
    (hclos : closureFor scope env = pure cl) (hcell : ∀ y ∈ scope.names, y.2 ≠ .cell) (hkind : scope.kind = .function) (hnames : ∀ x ∈ scope.names, x.2 = .local → scope.names.lookup x.1 = some .local)
    (hy : env.kindOf y = some .local) (hk : env.scope.kind = .function)
    (hs : ∀ x, foldedSetIterable iter env x = pure x := by intro _; rfl) :
    wpAny (model prog w) A (exec (.Assign [.Name y py] (.ListComp elt [⟨T, iter, ifs, 0⟩] scope pos) spos) env) Q F0 s := by
  rw [exec_Assign_Name_used _ _ _ _ hsw]
  refine wpAny_bind (wpAny_standAt (wpAny_bind ?_))
  show wpAny _ A (do let _ ← comprehension (.ListComp elt [⟨T, iter, ifs, 0⟩] scope pos) scope env _ (newList []) false (eval iter env) (some (assign (.Name y py) env))) _ _ s
  refine wpAny_bind (wpAny_mono (wpAny_comprehension_free (Q := fun _ s' => Q .next s') rfl hs hclos hkind hnames (wpAny_mono h (fun xv s₁ h₁ => wpAny_mono h₁ (fun it s₂ h₂ => ?_) F0_mono) F0_mono))
    (fun _ s' hq => wpAny_pure (wpAny_pure hq)) fun _ _ e => e)
  obtain ⟨m, hm, I, n, W, RD, St, Bd, δ, d, Rel, rfl, It, hst, hRD, hn, mono, tests, elts, fin⟩ := h₂
  refine lc_block d Rel rfl It hcell hkind hst hRD hn mono tests elts ?_
  intro h' tk m' ys hns hpl hall hk'
  obtain ⟨hnL, hQ⟩ := fin h' tk ys _ rfl hpl hall hk'
  obtain ⟨oL, _, _, hoL, _⟩ := hm
  have hLC : env.locals ≠ s₂.heap.objs.size + 1 := Nat.ne_of_lt (Nat.lt_trans (Heap.lt_size hoL) (Nat.lt_succ_self _))
  refine wpAny_assign_Name (wpAny_storeName_local hy hnL (fun h₂ hn₂ hs₂ => ?_) (by rw [hk]; rfl))
  refine ⟨m', hns.sameBut hs₂ (Ne.symm hLC), fun h₃ hs₃ => ?_⟩
  exact hQ h₃ _ (hn₂.sameBut hs₃ hLC) fun b o hbL hb e => hs₃.extBut b o hb (hs₂.extBut b o hbL e)
end
end
theorem st_cr {M : Model} {A : Around} {E : Value → Shared → Prop} {s : Shared} {a : Addr} {x : List Value} {k : List (Str × Value)} {Q : Value → Shared → Prop} (h : wpAny M A (call (Value.ref a) x k) Q E s) : wpAny M A (call (Value.ref a) x k) Q E s := h
theorem st_td {M : Model} {A : Around} {E : Value → Shared → Prop} {s : Shared} {x : List Value} {k : List (Str × Value)} {Q : Value → Shared → Prop} (h : wpAny M A (call (Value.type "dict") x k) Q E s) : wpAny M A (call (Value.type "dict") x k) Q E s := h
theorem st_tl {M : Model} {A : Around} {E : Value → Shared → Prop} {s : Shared} {x : List Value} {k : List (Str × Value)} {Q : Value → Shared → Prop} (h : wpAny M A (call (Value.type "list") x k) Q E s) : wpAny M A (call (Value.type "list") x k) Q E s := h
theorem st_tt {M : Model} {A : Around} {E : Value → Shared → Prop} {s : Shared} {x : List Value} {k : List (Str × Value)} {Q : Value → Shared → Prop} (h : wpAny M A (call (Value.type "tuple") x k) Q E s) : wpAny M A (call (Value.type "tuple") x k) Q E s := h
theorem st_tz {M : Model} {A : Around} {E : Value → Shared → Prop} {s : Shared} {x : List Value} {k : List (Str × Value)} {Q : Value → Shared → Prop} (h : wpAny M A (call (Value.type "zip") x k) Q E s) : wpAny M A (call (Value.type "zip") x k) Q E s := h
theorem st_bs {M : Model} {A : Around} {E : Value → Shared → Prop} {s : Shared} {x : List Value} {k : List (Str × Value)} {Q : Value → Shared → Prop} (h : wpAny M A (call (Value.builtin "sorted") x k) Q E s) : wpAny M A (call (Value.builtin "sorted") x k) Q E s := h
theorem st_ba {M : Model} {A : Around} {E : Value → Shared → Prop} {s : Shared} {x : List Value} {k : List (Str × Value)} {Q : Value → Shared → Prop} (h : wpAny M A (call (Value.builtin "list.append") x k) Q E s) : wpAny M A (call (Value.builtin "list.append") x k) Q E s := h
theorem st_bp {M : Model} {A : Around} {E : Value → Shared → Prop} {s : Shared} {x : List Value} {k : List (Str × Value)} {Q : Value → Shared → Prop} (h : wpAny M A (call (Value.builtin "dict.pop") x k) Q E s) : wpAny M A (call (Value.builtin "dict.pop") x k) Q E s := h
theorem st_bu {M : Model} {A : Around} {E : Value → Shared → Prop} {s : Shared} {x : List Value} {k : List (Str × Value)} {Q : Value → Shared → Prop} (h : wpAny M A (call (Value.builtin "dict.update") x k) Q E s) : wpAny M A (call (Value.builtin "dict.update") x k) Q E s := h
theorem st_bg {M : Model} {A : Around} {E : Value → Shared → Prop} {s : Shared} {x : List Value} {k : List (Str × Value)} {Q : Value → Shared → Prop} (h : wpAny M A (call (Value.builtin "dict.get") x k) Q E s) : wpAny M A (call (Value.builtin "dict.get") x k) Q E s := h
theorem st_sn {M : Model} {A : Around} {E : Value → Shared → Prop} {s : Shared} {e : Env} {v : Value} {Q : Unit → Shared → Prop} (h : wpAny M A (storeName e (PySem.Str.ofString "first") v) Q E s) : wpAny M A (storeName e (PySem.Str.ofString "first") v) Q E s := h
theorem st_fo {M : Model} {A : Around} {E : Value → Shared → Prop} {s : Shared} {a b : Expr} {c d : List Stmt} {p : Pos} {e : Env} {Q : Flow → Shared → Prop} (h : wpAny M A (exec (Stmt.For a b c d p) e) Q E s) : wpAny M A (exec (Stmt.For a b c d p) e) Q E s := h
theorem st_al {M : Model} {A : Around} {E : Value → Shared → Prop} {s : Shared} {t : List Expr} {a : Expr} {g : List Comprehension} {sc : Scope} {p p2 : Pos} {e : Env} {Q : Flow → Shared → Prop} (h : wpAny M A (exec (Stmt.Assign t (Expr.ListComp a g sc p) p2) e) Q E s) : wpAny M A (exec (Stmt.Assign t (Expr.ListComp a g sc p) p2) e) Q E s := h
theorem st_ad {M : Model} {A : Around} {E : Value → Shared → Prop} {s : Shared} {t : List Expr} {a b : Expr} {g : List Comprehension} {sc : Scope} {p p2 : Pos} {e : Env} {Q : Flow → Shared → Prop} (h : wpAny M A (exec (Stmt.Assign t (Expr.DictComp a b g sc p) p2) e) Q E s) : wpAny M A (exec (Stmt.Assign t (Expr.DictComp a b g sc p) p2) e) Q E s := h
theorem st_el {M : Model} {A : Around} {E : Value → Shared → Prop} {s : Shared} {a : Expr} {g : List Comprehension} {sc : Scope} {p : Pos} {e : Env} {Q : Value → Shared → Prop} (h : wpAny M A (eval (Expr.ListComp a g sc p) e) Q E s) : wpAny M A (eval (Expr.ListComp a g sc p) e) Q E s := h
theorem st_ed {M : Model} {A : Around} {E : Value → Shared → Prop} {s : Shared} {a b : Expr} {g : List Comprehension} {sc : Scope} {p : Pos} {e : Env} {Q : Value → Shared → Prop} (h : wpAny M A (eval (Expr.DictComp a b g sc p) e) Q E s) : wpAny M A (eval (Expr.DictComp a b g sc p) e) Q E s := h
theorem st_cNq {M : Model} {A : Around} {E : Value → Shared → Prop} {s : Shared} {a b : Value} {Q : Value → Shared → Prop} (h : wpAny M A (compareOp CmpOp.NotEq a b) Q E s) : wpAny M A (compareOp CmpOp.NotEq a b) Q E s := h
theorem st_cIn {M : Model} {A : Around} {E : Value → Shared → Prop} {s : Shared} {a b : Value} {Q : Value → Shared → Prop} (h : wpAny M A (compareOp CmpOp.In a b) Q E s) : wpAny M A (compareOp CmpOp.In a b) Q E s := h
theorem st_cNn {M : Model} {A : Around} {E : Value → Shared → Prop} {s : Shared} {a b : Value} {Q : Value → Shared → Prop} (h : wpAny M A (compareOp CmpOp.NotIn a b) Q E s) : wpAny M A (compareOp CmpOp.NotIn a b) Q E s := h
theorem st_and {p q : Prop} (h : p ∧ q) : p ∧ q := h
theorem st_ex {α : Type} {p : α → Prop} (h : ∃ x, p x) : ∃ x, p x := h
theorem st_ex1 {α : Type 1} {p : α → Prop} (h : ∃ x, p x) : ∃ x, p x := h
theorem st_eq {α : Type} {a b : α} (h : a = b) : a = b := h
theorem st_if {M : Model} {A : Around} {E : Value → Shared → Prop} {s : Shared} {a : Expr} {b c : List Stmt} {p : Pos} {e : Env} {Q : Flow → Shared → Prop} (h : wpAny M A (exec (Stmt.If a b c p) e) Q E s) : wpAny M A (exec (Stmt.If a b c p) e) Q E s := h
theorem st_ie {M : Model} {A : Around} {E : Value → Shared → Prop} {s : Shared} {a b c : Expr} {p : Pos} {e : Env} {Q : Value → Shared → Prop} (h : wpAny M A (eval (Expr.IfExp a b c p) e) Q E s) : wpAny M A (eval (Expr.IfExp a b c p) e) Q E s := h
abbrev PG : Program := PySem.Challenge.rw_xm0645_01.row.prog
structure G0 (w : World) (mg mb : Str → Option Value) (h : Heap) : Prop where
  K : (hd.heap_39 w.params).In h
  T : TopRead hd.view_39 (looseW hd.view_39 []) mg mb h
theorem G0.keep {w : World} {mg mb : Str → Option Value} {h h' : Heap} (G : G0 w mg mb h) (k : Kp h h') : G0 w mg mb h' := ⟨fun a o e => k _ _ (G.K a o e), G.T.keeps k⟩

def keyD : Nat → Str × Str
  | 0 => ("", "a")
  | 1 => ("", "b")
  | 2 => ("u", "a")
  | 3 => ("u", "c")
  | _ => ("v", "a")
def nameD : Nat → Str × Str
  | 0 => ("a", "a")
  | 1 => ("b", "b")
  | 2 => ("p:a", "q:a")
  | 3 => ("p:c", "q:c")
  | _ => ("r:a", "s:a")
def keyL (i : Nat) : List Str := [(keyD i).1, (keyD i).2]
def keyT (i : Nat) : Dat := .tuple [.str (keyD i).1, .str (keyD i).2]

def KeyAt (h : Heap) (v : Value) (i : Nat) : Prop :=
  ∃ p k n t1 t2, v = .ref p ∧ IsTup h p #[.ref k, .ref n] ∧ RdT h (.ref k) (keyT i) ∧ h.PlainList n #[.str (nameD i).1 t1, .str (nameD i).2 t2]

theorem tupN {h₀ h : Heap} {L a : Addr} {news : List (Addr × Obj)} {vs : Array Value} (N : News h₀ L h news) (hm : (a, { cls := .type "tuple", data := .seq vs }) ∈ news) : IsTup h a vs := ⟨_, N.get hm, rfl, _, rfl⟩
theorem plN {h₀ h : Heap} {L a : Addr} {news : List (Addr × Obj)} {vs : Array Value} {k : Nat} (N : News h₀ L h news) (hm : (a, W.listOf vs k) ∈ news) : h.PlainList a vs := ⟨_, N.get hm⟩
section
variable {w : World} {mg mb : Str → Option Value} {A : Around} {s : Shared} {Q : Value → Shared → Prop}
theorem rd2 {h : Heap} {L : Addr} {h₀ : Heap} {news : List (Addr × Obj)} {a : Addr} {x y : Str} {t u : Tok} (N : News h₀ L h news) (hm : (a, { cls := .type "tuple", data := .seq #[.str x t, .str y u] }) ∈ news) : RdT h (.ref a) (.tuple [.str x, .str y]) :=
  Rd.of_tup trivial ⟨_, N.get hm, rfl, _, rfl⟩ (.cons (.str _ _) (.cons (.str _ _) .nil))

set_option maxHeartbeats 4000000 in
theorem keys_call (hdp : A.depth + 3 < recursionLimit) (hu : A.units + 100 < cLine) (G : G0 w mg mb s.heap)
    (h : ∀ h' tk l items, Kp s.heap h' → s.heap.get? l = none → h'.PlainList l items.toArray → All2 (KeyAt h') items (List.range 5) → Q (.ref l) { s with heap := h', toks := tk }) :
    wpAny (model PySem.Challenge.rw_xm0645_01.row.prog w) A (call (.ref 54) []) Q F0 s := by
  refine wpAny_call ?_
  refine call_pos_ret (by omega) (G.K 54 _ rfl) rfl G.T.nolimit (codeRec_of G.K rfl) rfl (locs rfl) ?_
  intro h₁ F
  have X := G.K
  have T := G.T
  have N : News s.heap s.heap.objs.size h₁ [] := by intro p hp; cases hp
  k_steps
  k_sweep
  ((try (with_reducible rename Fr _ _ _ _ => F)); (try (with_reducible rename News _ _ _ _ => N)))
  refine h _ _ _ [_, _, _, _, _] F.keep (News.fresh N (List.Mem.head _)) (plN N (List.Mem.head _)) ?_
  refine .cons ?_ (.cons ?_ (.cons ?_ (.cons ?_ (.cons ?_ .nil))))
  all_goals
    refine ⟨_, _, _, _, _, rfl, tupN N (by (repeat (first | exact List.Mem.head _ | refine List.Mem.tail _ ?_))), rd2 N (by (repeat (first | exact List.Mem.head _ | refine List.Mem.tail _ ?_))), plN N (by (repeat (first | exact List.Mem.head _ | refine List.Mem.tail _ ?_)))⟩
end
section
variable {prog : Program} {w : World} {A : Around}

def Drawn (prog : Program) (w : World) (A : Around) (T : Expr) (ev : Addr → Env) (U : Nat → Prop) (n : Nat) (Bd : Nat → (Str → Option Value) → (Str → Option Value) → Prop) (g : Heap) (s₁ : Shared) (it : Value) (s₂ : Shared) : Prop :=
  ∃ (I : Addr) (W RD : Nat → Prop) (St : Nat → Heap → Prop), it = .ref I ∧ Iter prog w A T ev I n W RD St Bd ∧ St 0 s₂.heap ∧ (∀ b, RD b → b < s₂.heap.objs.size) ∧ (∀ b, U b → ¬ RD b) ∧
    (∀ b, W b → g.get? b = none) ∧ (∃ h' tk, s₂ = { s₁ with heap := h', toks := tk }) ∧ Kp g s₂.heap

def Tests (prog : Program) (w : World) (A : Around) (ifs : List Expr) (ev : Addr → Env) (g : Heap) (n : Nat) (Bd : Nat → (Str → Option Value) → (Str → Option Value) → Prop) {δ : Type} (d : Nat → Option δ) : Prop :=
  ∀ i (s : Shared) m₀ m C, i < n → Bd i m₀ m → s.heap.Ns C m → Kp g s.heap →
    wpAny (model prog w) A (forIn ifs true fun c r => if r = true then do let ok ← isTrue c (ev C) (eval c (ev C)); pure (ForInStep.yield ok) else pure (ForInStep.yield r))
      (fun ok s' => Keeps s s' ∧ ok = (d i).isSome) F0 s
def Elts (prog : Program) (w : World) (A : Around) (elt : Expr) (ev : Addr → Env) (U : Nat → Prop) (g : Heap) (n : Nat) (Bd : Nat → (Str → Option Value) → (Str → Option Value) → Prop) {δ : Type} (d : Nat → Option δ)
    (RelS : (Nat → Prop) → Heap → Value → δ → Prop) : Prop :=
  ∀ i x (s : Shared) m₀ m C (S : Nat → Prop), i < n → d i = some x → Bd i m₀ m → s.heap.Ns C m → Kp g s.heap → (∀ b, C < b → S b) → (∀ b o, ¬ U b → g.get? b = some o → S b) →
    wpAny (model prog w) A (eval elt (ev C)) (fun y s' => Keeps s s' ∧ RelS S s'.heap y x) F0 s
def RelOk {δ : Type} (RelS : (Nat → Prop) → Heap → Value → δ → Prop) : Prop := ∀ (S : Nat → Prop) h h' v x, (∀ b o, S b → h.get? b = some o → h'.get? b = some o) → RelS S h v x → RelS S h' v x

theorem tests_nil {ev : Addr → Env} {g : Heap} {n : Nat} {Bd : Nat → (Str → Option Value) → (Str → Option Value) → Prop} {δ : Type} {d : Nat → Option δ} (hd : ∀ i, i < n → (d i).isSome = true) : Tests prog w A [] ev g n Bd d := by
  intro i s m₀ m C hi _ _ _
  simp only [List.forIn_nil]
  exact wpAny_pure ⟨⟨s.heap, s.toks, rfl, fun _ _ e => e⟩, (hd i hi).symm⟩

theorem lc_val {T elt iter : Expr} {ifs : List Expr} {scope : Scope} {cl : List (Str × Addr)} {pos : Pos} {env : Env} {s : Shared} {Q : Value → Shared → Prop}
    (h : wpAny (model prog w) A (eval iter env) (fun x s₁ => ∃ (n : Nat) (Bd : Nat → (Str → Option Value) → (Str → Option Value) → Prop) (δ : Type) (d : Nat → Option δ) (RelS : (Nat → Prop) → Heap → Value → δ → Prop) (g : Heap),
      wpAny (model prog w) A (pyIter x) (Drawn prog w A T (fun C => compEnvC scope cl C env) (fun _ => False) n Bd g s₁) F0 s₁ ∧ n ≤ sizeLine ∧ RelOk RelS ∧
      Tests prog w A ifs (fun C => compEnvC scope cl C env) g n Bd d ∧ Elts prog w A elt (fun C => compEnvC scope cl C env) (fun _ => False) g n Bd d RelS ∧
      (∀ h' tk ys D S, g.get? D = none → h'.PlainList D ys.toArray → All2 (RelS S h') ys ((List.range n).filterMap d) → Kp g h' → Q (.ref D) { s₁ with heap := h', toks := tk })) F0 s)
    (hclos : closureFor scope env = pure cl) (hcell : ∀ y ∈ scope.names, y.2 ≠ .cell) (hkind : scope.kind = .function) (hnames : ∀ x ∈ scope.names, x.2 = .local → scope.names.lookup x.1 = some .local)
    (hs : ∀ x, foldedSetIterable iter env x = pure x := by intro _; rfl) :
    wpAny (model prog w) A (eval (.ListComp elt [⟨T, iter, ifs, 0⟩] scope pos) env) Q F0 s := by
  refine lc_value (wpAny_mono h (fun x s₁ h₁ => ?_) F0_mono) hclos hcell hkind hnames hs
  obtain ⟨n, Bd, δ, d, RelS, g, hi, hn, hR, hT, hE, fin⟩ := h₁
  refine wpAny_mono hi (fun it s₂ h₂ => ?_) F0_mono
  obtain ⟨I, W, RD, St, rfl, It, hst, hRD, hU, hW, ⟨h₂, tk₂, rfl⟩, kp⟩ := h₂
  have kp' : Kp g h₂ := kp
  have nW : ∀ b o, g.get? b = some o → ¬ W b := fun b o e q => by rw [hW b q] at e; cases e
  have lt1 : ∀ (b : Nat) o, g.get? b = some o → b < h₂.objs.size := fun b o e => Heap.lt_size (kp' b o e)
  refine ⟨I, n, W, RD, St, Bd, δ, d, RelS (fun b => ¬ W b ∧ b ≠ h₂.objs.size ∧ b ≠ h₂.objs.size + 1), rfl, It, hst, hRD, hn, ?_, ?_, ?_, ?_⟩
  · exact fun h h' v x hk r => hR _ _ _ _ _ (fun b o hb e => hk b o hb.1 hb.2.1 hb.2.2 e) r
  · exact fun i s m₀ m hi hB hns hk => hT i s m₀ m _ hi hB hns fun b o e => hk b o (nW b o e) (kp' b o e)
  · refine fun i x s m₀ m hi hd hB hns hk => hE i x s m₀ m _ _ hi hd hB hns (fun b o e => hk b o (nW b o e) (kp' b o e)) (fun b hb => ⟨fun q => ?_, ?_, ?_⟩) fun b o _ e => ⟨nW b o e, ?_, ?_⟩
    · exact absurd (Nat.lt_trans (Nat.lt_trans (Nat.lt_succ_self _) hb) (hRD b (It.sub _ q))) (Nat.lt_irrefl _)
    · have h2 : h₂.objs.size + 1 < b := hb
      omega
    · have h2 : h₂.objs.size + 1 < b := hb
      omega
    · exact Nat.ne_of_lt (lt1 b o e)
    · exact Nat.ne_of_lt (Nat.lt_trans (lt1 b o e) (Nat.lt_succ_self _))
  · intro h' tk ys D hD hpl hall hk
    refine fin h' tk ys D _ ?_ hpl hall fun b o e => hk b o (nW b o e) (kp' b o e)
    subst hD
    cases e : g.get? h₂.objs.size with
    | none => rfl
    | some o => exact absurd (lt1 _ o e) (Nat.lt_irrefl _)

theorem lc_asg {T elt iter : Expr} {ifs : List Expr} {scope : Scope} {cl : List (Str × Addr)} {pos spos py : Pos} {y : Str} {env : Env} {s : Shared} {Q : Flow → Shared → Prop}
    (h : wpAny (model prog w) A (eval iter env) (fun x s₁ => ∃ (n : Nat) (Bd : Nat → (Str → Option Value) → (Str → Option Value) → Prop) (δ : Type) (d : Nat → Option δ) (RelS : (Nat → Prop) → Heap → Value → δ → Prop) (m : Str → Option Value) (g : Heap),
      g.Ns env.locals m ∧ wpAny (model prog w) A (pyIter x) (Drawn prog w A T (fun C => compEnvC scope cl C env) (fun _ => False) n Bd g s₁) F0 s₁ ∧ n ≤ sizeLine ∧ RelOk RelS ∧
      Tests prog w A ifs (fun C => compEnvC scope cl C env) g n Bd d ∧ Elts prog w A elt (fun C => compEnvC scope cl C env) (· = env.locals) g n Bd d RelS ∧
      (∀ h' tk ys D S, g.get? D = none → h'.PlainList D ys.toArray → All2 (RelS S h') ys ((List.range n).filterMap d) → h'.Ns env.locals (fun z => if z = y then some (.ref D) else m z) →
        (∀ b o, b ≠ env.locals → g.get? b = some o → h'.get? b = some o) → Q .next { s₁ with heap := h', toks := tk })) F0 s)
    (hsw : swapsWith (.ListComp elt [⟨T, iter, ifs, 0⟩] scope pos) (some (.Name y py)) spos.line env = pure true := by rfl)
    (hclos : closureFor scope env = pure cl) (hcell : ∀ y ∈ scope.names, y.2 ≠ .cell) (hkind : scope.kind = .function) (hnames : ∀ x ∈ scope.names, x.2 = .local → scope.names.lookup x.1 = some .local)
    (hy : env.kindOf y = some .local) (hk : env.scope.kind = .function)
    (hs : ∀ x, foldedSetIterable iter env x = pure x := by intro _; rfl) :
    wpAny (model prog w) A (exec (.Assign [.Name y py] (.ListComp elt [⟨T, iter, ifs, 0⟩] scope pos) spos) env) Q F0 s := by
  refine lc_used (wpAny_mono h (fun x s₁ h₁ => ?_) F0_mono) hsw hclos hcell hkind hnames hy hk hs
  obtain ⟨n, Bd, δ, d, RelS, mL, g, hmL, hi, hn, hR, hT, hE, fin⟩ := h₁
  refine wpAny_mono hi (fun it s₂ h₂ => ?_) F0_mono
  obtain ⟨I, W, RD, St, rfl, It, hst, hRD, hU, hW, ⟨h₂, tk₂, rfl⟩, kp⟩ := h₂
  have kp' : Kp g h₂ := kp
  have nW : ∀ b o, g.get? b = some o → ¬ W b := fun b o e q => by rw [hW b q] at e; cases e
  have lt1 : ∀ (b : Nat) o, g.get? b = some o → b < h₂.objs.size := fun b o e => Heap.lt_size (kp' b o e)
  have hm2 : h₂.Ns env.locals mL := hmL.at' fun o e => kp' _ o e
  have ltL : (env.locals : Nat) < h₂.objs.size := by obtain ⟨oL, _, _, hoL, _⟩ := hm2; exact Heap.lt_size hoL
  refine ⟨mL, hm2, I, n, W, RD, St, Bd, δ, d, RelS (fun b => (¬ W b ∧ b ≠ h₂.objs.size ∧ b ≠ h₂.objs.size + 1) ∧ b ≠ env.locals), rfl, It, hst, hRD, hn, ?_, ?_, ?_, ?_⟩
  · exact fun h h' v x hk r => hR _ _ _ _ _ (fun b o hb e => hk b o hb.1.1 hb.1.2.1 hb.1.2.2 e) r
  · exact fun i s m₀ m hi hB hns hk => hT i s m₀ m _ hi hB hns fun b o e => hk b o (nW b o e) (kp' b o e)
  · refine fun i x s m₀ m hi hd hB hns hk => hE i x s m₀ m _ _ hi hd hB hns (fun b o e => hk b o (nW b o e) (kp' b o e)) (fun b hb => ⟨⟨fun q => ?_, ?_, ?_⟩, ?_⟩) fun b o hu e => ⟨⟨nW b o e, ?_, ?_⟩, hu⟩
    · exact absurd (Nat.lt_trans (Nat.lt_trans (Nat.lt_succ_self _) hb) (hRD b (It.sub _ q))) (Nat.lt_irrefl _)
    · have h2 : h₂.objs.size + 1 < b := hb
      omega
    · have h2 : h₂.objs.size + 1 < b := hb
      omega
    · have h2 : h₂.objs.size + 1 < b := hb
      intro q; rw [q] at h2; exact absurd (Nat.lt_trans ltL (Nat.lt_trans (Nat.lt_succ_self _) h2)) (Nat.lt_irrefl _)
    · exact Nat.ne_of_lt (lt1 b o e)
    · exact Nat.ne_of_lt (Nat.lt_trans (lt1 b o e) (Nat.lt_succ_self _))
  · intro h' tk ys D hD hpl hall hk
    have hLW : ¬ W env.locals := fun q => by
      obtain ⟨oL, _, _, hoL, _⟩ := hmL
      exact nW _ _ hoL q
    refine ⟨hm2.at' fun o e => hk _ o hLW e, fun h'' tk' hn'' hk'' => ?_⟩
    have hDL : D ≠ env.locals := fun q => by rw [q] at hD; rw [hD] at ltL; exact Nat.lt_irrefl _ ltL
    refine fin h'' tk' ys D _ ?_ (hpl.at fun o e => hk'' D o hDL (by rw [hD]; exact Nat.ne_of_lt (Nat.lt_succ_self _)) e) (hall.mono fun v x r => hR _ _ _ _ _ (fun b o hb e => hk'' b o hb.2 hb.1.2.2 e) r) hn''
      fun b o hb e => hk'' b o hb (Nat.ne_of_lt (Nat.lt_trans (lt1 b o e) (Nat.lt_succ_self _))) (hk b o (nW b o e) (kp' b o e))
    subst hD
    cases e : g.get? h₂.objs.size with
    | none => rfl
    | some o => exact absurd (lt1 _ o e) (Nat.lt_irrefl _)

abbrev BT (xs : List Str) (B : Nat → List Value → Prop) : Nat → (Str → Option Value) → (Str → Option Value) → Prop := fun i m m' => ∃ ws, B i ws ∧ ws.length = xs.length ∧ m' = upd m (xs.zip ws)

def SeqOf (h : Heap) (l : Addr) (vs : List Value) : Prop := h.IsList l vs.toArray ∨ IsTup h l vs.toArray

section
variable {s₁ : Shared} {ev : Addr → Env} {U : Nat → Prop}
theorem drawn_tup {elts : List Expr} {xs : List Str} {k : Nat} {tp : Pos} {l : Addr} {vs : List Value} {B : Nat → List Value → Prop} (hh : A.handled = none) (hseq : SeqOf s₁.heap l vs) (hE : Nms elts xs)
    (its : ∀ i v, vs[i]? = some v → ∃ t ws, v = .ref t ∧ ¬ U t ∧ IsTup s₁.heap t ws.toArray ∧ ws.length = xs.length ∧ B i ws) (hU : ∀ b, U b → b < s₁.heap.objs.size) (hUl : ¬ U l)
    (hl : ∀ C, ∀ x ∈ xs, (ev C).kindOf x = some .local) (hk : ∀ C, (ev C).scope.kind = .function) :
    wpAny (model prog w) A (pyIter (.ref l)) (Drawn prog w A (.Tuple elts k tp) ev U vs.length (BT xs B) s₁.heap s₁) F0 s₁ := by
  have ltS : ∀ {a o}, s₁.heap.get? a = some o → a ≠ s₁.heap.objs.size := fun e => Nat.ne_of_lt (Heap.lt_size e)
  rcases hseq with hl' | ht'
  · have hne : l ≠ s₁.heap.objs.size := by obtain ⟨o, e, _⟩ := hl'; exact ltS e
    refine wpAny_pyIter_list hl' ?_
    refine ⟨_, _, _, _, rfl, Iter.tup (S := fun b => b < s₁.heap.objs.size ∧ ¬ U b) (g := s₁.heap) (Walks.list hh s₁.heap.objs.size l hne vs.toArray) hE hh hl hk ?_ ?_ ?_, ⟨⟨⟨_, Heap.get?_push_size _ rfl, rfl, rfl⟩, hl'.at fun o e => Heap.get?_push_of_some _ e⟩, fun b o hb e => Heap.get?_push_of_some _ e⟩, ?_, ?_, ?_, ⟨_, _, rfl⟩, fun b o e => Heap.get?_push_of_some _ e⟩
    · intro b hb; simp; have := hb.1; omega
    · intro i T s Q st hQ; exact go_listiter st.1 hQ
    · intro i v hi hv
      obtain ⟨t, ws, e, hut, ht, hlen, hB⟩ := its i v (by simpa using hv)
      exact ⟨t, ws, e, ⟨by obtain ⟨o, ho, _⟩ := ht; exact Heap.lt_size ho, hut⟩, ht, hlen, hB⟩
    · intro b hb
      show b < (s₁.heap.push _).objs.size
      rw [Heap.size_push]
      rcases hb with hb | hb
      · have := hb.1; omega
      · simp at hb; rcases hb with rfl | rfl
        · exact Nat.lt_succ_self _
        · obtain ⟨o, e, _⟩ := hl'; exact Nat.lt_succ_of_lt (Heap.lt_size e)
    · intro b hb q
      rcases q with q | q
      · exact q.2 hb
      · simp at q; rcases q with rfl | rfl
        · exact Nat.lt_irrefl _ (hU _ hb)
        · exact hUl hb
    · intro b hb
      simp at hb; subst hb
      exact fresh_none (Nat.le_refl _)
  · have hne : l ≠ s₁.heap.objs.size := by obtain ⟨o, e, _⟩ := ht'; exact ltS e
    refine iter_tuple ht' ?_
    refine ⟨_, _, _, _, rfl, Iter.tup (S := fun b => b < s₁.heap.objs.size ∧ ¬ U b) (g := s₁.heap) (Walks.tuple hh s₁.heap.objs.size l hne vs.toArray) hE hh hl hk ?_ ?_ ?_, ⟨⟨⟨_, Heap.get?_push_size _ rfl, rfl, rfl⟩, Heap.IsTuple.at (show s₁.heap.IsTuple l vs.toArray from ht') fun o e => Heap.get?_push_of_some _ e⟩, fun b o hb e => Heap.get?_push_of_some _ e⟩, ?_, ?_, ?_, ⟨_, _, rfl⟩, fun b o e => Heap.get?_push_of_some _ e⟩
    · intro b hb; simp; have := hb.1; omega
    · intro i T s Q st hQ; exact go_tupiter st.1 hQ
    · intro i v hi hv
      obtain ⟨t, ws, e, hut, ht, hlen, hB⟩ := its i v (by simpa using hv)
      exact ⟨t, ws, e, ⟨by obtain ⟨o, ho, _⟩ := ht; exact Heap.lt_size ho, hut⟩, ht, hlen, hB⟩
    · intro b hb
      show b < (s₁.heap.push _).objs.size
      rw [Heap.size_push]
      rcases hb with hb | hb
      · have := hb.1; omega
      · simp at hb; rcases hb with rfl | rfl
        · exact Nat.lt_succ_self _
        · obtain ⟨o, e, _⟩ := ht'; exact Nat.lt_succ_of_lt (Heap.lt_size e)
    · intro b hb q
      rcases q with q | q
      · exact q.2 hb
      · simp at q; rcases q with rfl | rfl
        · exact Nat.lt_irrefl _ (hU _ hb)
        · exact hUl hb
    · intro b hb
      simp at hb; subst hb
      exact fresh_none (Nat.le_refl _)
end
end
structure NsM : Prop where
section
variable {M : Model} {prog : Program} {w : World} {A : Around} {E : Value → Shared → Prop} {s : Shared} {env : Env} {m : Str → Option Value} {Q : Value → Shared → Prop}
theorem ev_name {x : Str} {pos : Pos} {v : Value} (hn : s.heap.Ns env.locals m) (hv : m x = some v) (h : Q v s) (hk : env.scope.kind = .function) (hx : env.kindOf x = some .local)
    (hd : (x == ("__debug__" : Str)) = false := by decide) : wpAny M A (eval (.Name x pos) env) Q E s := wpAny_Name (wpAny_loadName_local hk hx hn hv h) hd
theorem new_tuple {vs : List Value} (h : Q (.ref s.heap.objs.size) { s with heap := s.heap.push { cls := .type "tuple", data := .seq vs.toArray } }) (hsz : vs.length ≤ sizeLine) : wpAny M A (newTuple vs) Q E s :=
  wpAny_newObj_type h (by show vs.toArray.size ≤ sizeLine; rw [List.size_toArray]; exact hsz)
end
local macro_rules | `(tactic| walk_at "eval Name") => `(tactic| ((have nsMx : NsM := (by assumption)); clear nsMx; k_dflt (refine' ev_name ?hn ?hv ?_ ?hk ?hx; (case hn => assumption); (case hk => rfl); (case hx => rfl); (case hv => rfl))))
local macro_rules | `(tactic| walk_at "newTuple") => `(tactic| ((have nsMx : NsM := (by assumption)); clear nsMx; k_dflt (refine' new_tuple ?_ ?z; (case z => (simp only [List.length_cons, List.length_nil]; decide)))))
local macro_rules | `(tactic| walk_at "subscriptTail") => `(tactic| ((have nsMx : NsM := (by assumption)); clear nsMx; (with_reducible show wpAny _ _ (subscriptTail _ _ (Value.ref _) (Value.int _ _)) _ _ _); k_dflt (refine' item_tupleT ?t ?a ?b ?c ?d ?_; (case t => assumption); (case a => decide); (case b => decide); (case c => rfl); (case d => rfl))))
theorem tup_base {h₀ h : Heap} {L t : Addr} {m : Str → Option Value} {vs : Array Value} (F : Fr h₀ L h m) (x : IsTup h₀ t vs) : IsTup h t vs := x.keeps F.keep
local macro_rules | `(tactic| walk_at "subscriptTail") => `(tactic| ((with_reducible show wpAny _ _ (subscriptTail _ _ (Value.ref _) (Value.int _ _)) _ _ _); k_dflt (refine' item_tupleT ?t ?a ?b ?c ?d ?_; (case t => exact tup_base (by assumption) (by assumption)); (case a => decide); (case b => decide); (case c => rfl); (case d => rfl))))
theorem news0 {h₀ h : Heap} {L : Addr} {m : Str → Option Value} (F : Fr h₀ L h m) : News h₀ L h [] := fun _ hp => nomatch hp
theorem all_news {h₀ h : Heap} {L : Addr} {m : Str → Option Value} (F : Fr h₀ L h m) : ∃ nl, News h₀ L h nl ∧ ∀ {h' : Heap} {m' : Str → Option Value} {nl' : List (Addr × Obj)}, Fr h₀ L h' m' → News h₀ L h' nl' → (∀ p ∈ nl, p ∈ nl') →
    ∀ b o, b ≠ L → h.get? b = some o → h'.get? b = some o := by
  refine ⟨(List.range h.objs.size).filterMap (fun a => if a = L ∨ (h₀.get? a).isSome then none else (h.get? a).map (fun o => (a, o))), ?_, ?_⟩
  · intro p hp
    obtain ⟨a, _, ha⟩ := List.mem_filterMap.mp hp
    by_cases hc : a = L ∨ (h₀.get? a).isSome
    · rw [if_pos hc] at ha; cases ha
    · rw [if_neg hc] at ha
      cases ho : h.get? a with
      | none => rw [ho] at ha; cases ha
      | some o =>
        rw [ho] at ha; cases ha
        refine ⟨ho, fun q => hc (.inl q), ?_⟩
        cases hq : h₀.get? a with
        | none => rfl
        | some o' => exact absurd (.inr (by rw [hq]; rfl)) hc
  · intro h' m' nl' F' N' hs b o hb e
    cases hq : h₀.get? b with
    | some o' =>
      have := F.keep b o' hq
      rw [e] at this; cases this
      exact F'.keep b _ hq
    | none =>
      refine (N' (b, o) (hs _ (List.mem_filterMap.mpr ⟨b, List.mem_range.mpr (Heap.lt_size e), ?_⟩))).1
      rw [if_neg (by rintro (q | q); exact hb q; rw [hq] at q; cases q), e]; rfl
theorem anyE {α : Type} {M : Model} {A : Around} {c : Sem α} {Q : α → Shared → Prop} {E : Value → Shared → Prop} {s : Shared} (h : wpAny M A c Q F0 s) : wpAny M A c Q E s := wpAny_mono h (fun _ _ x => x) F0_mono
section
variable {S S' : Nat → Prop} {h h' : Heap}
mutual
theorem Rd.mono2 (hk : ∀ b o vs n, S b → h.get? b = some o → o.data = .seq vs n → S' b ∧ h'.get? b = some o) : ∀ {v : Value} {d : Dat}, Rd S h v d → Rd S' h' v d
  | _, _, .none => .none
  | _, _, .str x t => .str x t
  | _, _, .tup hS ho hc hd r => .tup (hk _ _ _ _ hS ho hd).1 (hk _ _ _ _ hS ho hd).2 hc hd (RdAll.mono2 hk r)
theorem RdAll.mono2 (hk : ∀ b o vs n, S b → h.get? b = some o → o.data = .seq vs n → S' b ∧ h'.get? b = some o) : ∀ {vs : List Value} {ds : List Dat}, RdAll S h vs ds → RdAll S' h' vs ds
  | _, _, .nil => .nil
  | _, _, .cons a r => .cons (Rd.mono2 hk a) (RdAll.mono2 hk r)
end
theorem ns_data {L : Addr} {m : Str → Option Value} (hn : h.Ns L m) {o : Obj} {vs : Array Value} {n : Nat} (ho : h.get? L = some o) (hd : o.data = .seq vs n) : False := by
  obtain ⟨o', es, ep, e, hd', _⟩ := hn
  rw [ho] at e; cases e
  rw [hd] at hd'; cases hd'
theorem Rd.offL {L : Addr} {m : Str → Option Value} (hn : h.Ns L m) {v : Value} {d : Dat} (r : Rd S h v d) (hS : ∀ b o, ¬ b = L → h.get? b = some o → S' b) : Rd S' h v d :=
  r.mono2 fun b o vs n _ e hd => ⟨hS b o (fun q => ns_data hn (q ▸ e) hd) e, e⟩
theorem RdAll.offL {L : Addr} {m : Str → Option Value} (hn : h.Ns L m) {v : List Value} {d : List Dat} (r : RdAll S h v d) (hS : ∀ b o, ¬ b = L → h.get? b = some o → S' b) : RdAll S' h v d :=
  r.mono2 fun b o vs n _ e hd => ⟨hS b o (fun q => ns_data hn (q ▸ e) hd) e, e⟩
theorem Rd.past {L : Addr} {m : Str → Option Value} (hn : h.Ns L m) {v : Value} {d : Dat} (r : Rd S h v d) (hk : ∀ b o, b ≠ L → h.get? b = some o → h'.get? b = some o) : Rd S h' v d :=
  r.mono2 fun b o vs n hs e hd => ⟨hs, hk b o (fun q => ns_data hn (q ▸ e) hd) e⟩
theorem RdAll.past {L : Addr} {m : Str → Option Value} (hn : h.Ns L m) {v : List Value} {d : List Dat} (r : RdAll S h v d) (hk : ∀ b o, b ≠ L → h.get? b = some o → h'.get? b = some o) : RdAll S h' v d :=
  r.mono2 fun b o vs n hs e hd => ⟨hs, hk b o (fun q => ns_data hn (q ▸ e) hd) e⟩
theorem tup_ne_ns {L t : Addr} {m : Str → Option Value} {vs : Array Value} (hn : h.Ns L m) (ht : IsTup h t vs) : t ≠ L := by
  rintro rfl
  obtain ⟨o, ho, _, n, hd⟩ := ht
  exact ns_data hn ho hd
theorem pl_ne_ns {L t : Addr} {m : Str → Option Value} {vs : Array Value} (hn : h.Ns L m) (ht : h.PlainList t vs) : t ≠ L := by
  rintro rfl
  obtain ⟨n, ho⟩ := ht
  exact ns_data hn ho rfl
theorem All2.get2 {α β : Type} {R : α → β → Prop} : ∀ {as : List α} {bs : List β}, All2 R as bs → ∀ {i : Nat} {a : α}, as[i]? = some a → ∃ b, bs[i]? = some b ∧ R a b
  | _, _, .nil, i, b, h => by simp at h
  | _, _, .cons x r, 0, b, h => by simp at h; subst h; exact ⟨_, rfl, x⟩
  | _, _, .cons x r, i + 1, b, h => by simpa using r.get2 (by simpa using h)
end

theorem elt_tup {s : Shared} {C : Addr} {m : Str → Option Value} {S : Nat → Prop} {tk : Nat} {vs : List Value} {ds : List Dat} (hns : s.heap.Ns C m) (hC : ∀ b, C < b → S b) (hr : RdAll S s.heap vs ds) :
    Keeps s { s with heap := s.heap.push { cls := .type "tuple", data := .seq vs.toArray }, toks := tk } ∧ Rd S (s.heap.push { cls := .type "tuple", data := .seq vs.toArray }) (.ref s.heap.objs.size) (.tuple ds) :=
  ⟨⟨_, _, rfl, fun _ _ e => Heap.get?_push_of_some _ e⟩, Rd.of_tup (hC _ hns.lt) ⟨_, Heap.get?_push_size _ rfl, rfl, _, rfl⟩ (hr.keep fun _ _ e => Heap.get?_push_of_some _ e)⟩
theorem range_map_some : ∀ (l : List Nat), l.filterMap (fun i => some i) = l
  | [] => rfl
  | a :: l => by simp

section
variable {prog : Program} {w : World} {A : Around} {s₁ : Shared} {env : Env} {Q : Flow → Shared → Prop}
theorem keys_pack {scope : Scope} {cl : List (Str × Addr)} {m : Str → Option Value} {p1 p2 p3 p4 : Pos} {k : Nat} {l : Addr} {items : List Value} {y : Str} (hh : A.handled = none)
    (hpl : s₁.heap.PlainList l items.toArray) (hall : All2 (KeyAt s₁.heap) items (List.range 5)) (hm : s₁.heap.Ns env.locals m)
    (hl : ∀ C, ∀ x ∈ (["key", "names"] : List Str), (compEnvC scope cl C env).kindOf x = some .local) (hk : scope.kind = .function)
    (fin : ∀ h' tk ys D S, s₁.heap.get? D = none → h'.PlainList D ys.toArray → All2 (fun v i => Rd S h' v (keyT i)) ys (List.range 5) → h'.Ns env.locals (fun z => if z = y then some (.ref D) else m z) →
        (∀ b o, b ≠ env.locals → s₁.heap.get? b = some o → h'.get? b = some o) → Q .next { s₁ with heap := h', toks := tk }) :
    ∃ (n : Nat) (Bd : Nat → (Str → Option Value) → (Str → Option Value) → Prop) (δ : Type) (d : Nat → Option δ) (RelS : (Nat → Prop) → Heap → Value → δ → Prop) (m : Str → Option Value) (g : Heap),
      g.Ns env.locals m ∧ wpAny (model prog w) A (pyIter (.ref l)) (Drawn prog w A (.Tuple [.Name "key" p1, .Name "names" p2] k p3) (fun C => compEnvC scope cl C env) (fun _ => False) n Bd g s₁) F0 s₁ ∧ n ≤ sizeLine ∧ RelOk RelS ∧
      Tests prog w A [] (fun C => compEnvC scope cl C env) g n Bd d ∧ Elts prog w A (.Name "key" p4) (fun C => compEnvC scope cl C env) (· = env.locals) g n Bd d RelS ∧
      (∀ h' tk ys D S, g.get? D = none → h'.PlainList D ys.toArray → All2 (RelS S h') ys ((List.range n).filterMap d) → h'.Ns env.locals (fun z => if z = y then some (.ref D) else m z) →
        (∀ b o, b ≠ env.locals → g.get? b = some o → h'.get? b = some o) → Q .next { s₁ with heap := h', toks := tk }) := by
  have hn5 : items.length = 5 := by rw [hall.length]; rfl
  refine ⟨5, BT ["key", "names"] (fun i ws => ∃ kk nn, ws = [.ref kk, nn] ∧ RdT s₁.heap (.ref kk) (keyT i)), Nat, fun i => some i, fun S h v i => Rd S h v (keyT i), m, s₁.heap, hm, ?_, by size_fits, ?_, ?_, ?_, ?_⟩
  · rw [← hn5]
    refine drawn_tup (xs := ["key", "names"]) (B := fun i ws => ∃ kk nn, ws = [.ref kk, nn] ∧ RdT s₁.heap (.ref kk) (keyT i)) hh (.inl hpl.isList) (.cons (.cons .nil)) ?_ (fun _ q => q.elim) (fun q => q) hl (fun _ => hk)
    intro i v hv
    obtain ⟨j, hj, p, kk, nn, t1, t2, rfl, ht, hr, _⟩ := hall.get2 hv
    have : j = i := by
      rw [List.getElem?_range (by have := (List.getElem?_eq_some_iff.mp hj).1; simpa using this)] at hj
      exact (Option.some.inj hj).symm
    subst this
    exact ⟨p, [.ref kk, .ref nn], rfl, fun q => q, ht, rfl, kk, .ref nn, rfl, hr⟩
  · intro S h h' v x hk' r
    exact r.mono fun b o hb e => ⟨hb, hk' b o hb e⟩
  · exact tests_nil fun _ _ => rfl
  · rintro i x s m₀ mm C S hi hd ⟨ws, ⟨kk, nn, rfl, hr⟩, _, hmm⟩ hns hkp hC hS
    cases hd
    subst hmm
    refine ev_name (env := compEnvC scope cl C env) hns rfl ⟨⟨s.heap, s.toks, rfl, fun _ _ e => e⟩, ?_⟩ hk (hl C _ (by simp)) (by decide)
    exact (hr.offL hm hS).keep hkp
  · intro h' tk ys D S hD hpl' ha hns hkp
    exact fin h' tk ys D S hD hpl' (by rwa [range_map_some] at ha) hns hkp
end
section
variable {prog : Program} {w : World} {A : Around} {s : Shared} {ev : Addr → Env} {Q : Value → Shared → Prop}
theorem zip2_pack {l1 l2 : Addr} {xs ys : List Value} {n : Nat} (hh : A.handled = none) (hl1 : s.heap.IsList l1 xs.toArray) (hl2 : s.heap.IsList l2 ys.toArray)
    (hn1 : xs.length = n) (hn2 : ys.length = n)
    (h : ∀ x h' tk, Kp s.heap h' → (∀ {elts : List Expr} {names : List Str} {k : Nat} {tp : Pos} {ev : Addr → Env}, Nms elts names → names.length = 2 → (∀ C, ∀ x ∈ names, (ev C).kindOf x = some .local) → (∀ C, (ev C).scope.kind = .function) →
        wpAny (model prog w) A (pyIter x) (Drawn prog w A (.Tuple elts k tp) ev (fun _ => False) n (BT names (fun i ws => ∃ x y, xs[i]? = some x ∧ ys[i]? = some y ∧ ws = [x, y])) s.heap { s with heap := h', toks := tk }) F0 { s with heap := h', toks := tk }) →
      Q x { s with heap := h', toks := tk }) : wpAny (model prog w) A (call (.type "zip") [.ref l1, .ref l2]) Q F0 s := by
  have lt1 : (id l1 : Nat) < s.heap.objs.size := by obtain ⟨o, e, _⟩ := hl1; exact Heap.lt_size e
  have lt2 : (id l2 : Nat) < s.heap.objs.size := by obtain ⟨o, e, _⟩ := hl2; exact Heap.lt_size e
  refine call_zip_2 hl1 hl2 fun h' hz hTI hTO hi1 hi2 hsz hk' => h _ h' s.toks hk' (fun {elts names k tp ev} hE hnl hl hk => wpAny_pyIter_zip (s := { s with heap := h', toks := s.toks }) hz ?_)
  obtain ⟨N, hN⟩ : ∃ N : Nat, s.heap.objs.size = N := ⟨_, rfl⟩
  simp only [id] at lt1 lt2
  rw [hN] at lt1 lt2 hz hTI hTO hi1 hi2 hsz
  rw [hN]
  have D : ZipApart (N + 4) (N + 2) (N + 3) N (N + 1) l1 l2 := by
    constructor <;> first | exact Nat.ne_of_lt (by omega) | exact Nat.ne_of_gt (by omega)
  have hmin : min xs.toArray.size ys.toArray.size = n := by rw [List.size_toArray, List.size_toArray, hn1, hn2]; exact Nat.min_self n
  have Wk := (WalksT.zip2 (prog := prog) (w := w) hh (N + 4) (N + 2) (N + 3) N (N + 1) l1 l2 D xs.toArray ys.toArray).toU
  rw [hmin] at Wk
  refine ⟨N + 4, _, _, _, rfl, Iter.tupU (S := fun b => b < N) (g := s.heap) (B := fun i ws => ∃ x y, xs[i]? = some x ∧ ys[i]? = some y ∧ ws = [x, y]) Wk hE hh hl hk ?_ ?_,
    ⟨⟨hz, hTI, ⟨_, _, hTO⟩, hi1, hi2, hl1.at fun o e => hk' _ _ e, hl2.at fun o e => hk' _ _ e⟩, fun b o _ e => hk' b o e⟩, ?_, fun _ q => q.elim, ?_, ⟨h', s.toks, rfl⟩, hk'⟩
  · intro b hb q
    simp at q
    rcases q with rfl | rfl | rfl | rfl <;> omega
  · rintro i vals hi ⟨x, y, hx, hy, rfl⟩
    exact ⟨by simp [hnl], x, y, by simpa using hx, by simpa using hy, rfl⟩
  · intro b hb
    show b < h'.objs.size
    rw [hsz]
    rcases hb with hb | hb
    · omega
    · simp at hb; rcases hb with rfl | rfl | rfl | rfl | rfl | rfl | rfl <;> omega
  · intro b hb
    refine fresh_none ?_
    rw [hN]
    simp at hb
    rcases hb with rfl | rfl | rfl | rfl <;> omega
end
section
open Sem (wp)
theorem z3_typeCall (a b c : Value) : checkTypeCall "zip" ⟨[a, b, c], []⟩ = pure () := by kernel_rfl
theorem z3_newCall (a b c : Value) : checkBuiltinCall "zip.__new__" ⟨[.type "zip", a, b, c], []⟩ = pure () := by kernel_rfl
theorem z3_args (a b c d : Value) : argsOk "object.__init__" ⟨[a, b, c, d], []⟩ := by
  unfold argsOk; rw [signature?_of (id := "object.__init__") (n := ['_', '_', 't', 'i', 'n', 'i', '_', '_']) (o := ['t', 'c', 'e', 'j', 'b', 'o']) (by kernel_rfl) F.owner_object]; kernel_rfl

abbrev IsTri (h : Heap) (T : Addr) (a b c : Value) : Prop := h.get? T = some { cls := .type "tuple", data := .seq #[a, b, c] }
structure Z3 (z TI TO i1 i2 i3 l1 l2 l3 : Nat) : Prop where
  a1 : l1 < i1
  a2 : l2 < i1
  a3 : l3 < i1
  b1 : i1 < i2
  b2 : i2 < i3
  b3 : i3 < TI
  b4 : TI < TO
  b5 : TO < z
section
variable {prog : Program} {w : World} {A : Around} {E : Value → Shared → Prop} {s : Shared}

theorem upd_tri {T : Addr} {a b c x : Value} {k : Nat} {Q : Unit → Shared → Prop} (hT : IsTri s.heap T a b c)
    (h : ∀ h', h'.get? T = some { cls := .type "tuple", data := .seq ((#[a, b, c] : Array Value).setIfInBounds k x) } → Heap.SameBut T s.heap h' → Q () { s with heap := h' }) :
    wpAny (model prog w) A (updateSeq T (·.setIfInBounds k x)) Q E s := by
  refine wpAny_updateSeq hT rfl (h _ ?_ (Heap.SameBut.update ..))
  rw [Heap.get?_update_self _ hT rfl]
  simp [Obj.mapSeq]

theorem z3_next_item {z TI TO i1 i2 i3 l1 l2 l3 : Nat} {k : Nat} {xs ys zs : Array Value} {x y v a b c : Value} {Q : Value → Shared → Prop} (D : Z3 z TI TO i1 i2 i3 l1 l2 l3)
    (hz : IsZip s.heap z TI TO .none) (hTI : IsTri s.heap TI (.ref i1) (.ref i2) (.ref i3)) (hTO : IsTri s.heap TO a b c)
    (h1 : s.heap.IsListIter i1 l1 k) (h2 : s.heap.IsListIter i2 l2 k) (h3 : s.heap.IsListIter i3 l3 k) (hl1 : s.heap.IsList l1 xs) (hl2 : s.heap.IsList l2 ys) (hl3 : s.heap.IsList l3 zs)
    (hx : xs[k]? = some x) (hy : ys[k]? = some y) (hv : zs[k]? = some v)
    (hQ : ∀ h', IsZip h' z TI TO (rawInt s.heap.objs.size) → IsTri h' TO x y v → h'.IsListIter i1 l1 (k + 1) → h'.IsListIter i2 l2 (k + 1) → h'.IsListIter i3 l3 (k + 1) → IsTri h' s.heap.objs.size x y v →
      (∀ e o, e ≠ z → e ≠ TO → e ≠ i1 → e ≠ i2 → e ≠ i3 → s.heap.get? e = some o → h'.get? e = some o) → Q (.ref s.heap.objs.size) { s with heap := h' }) :
    wpAny (model prog w) A (Builtin.«zip.__next__» ⟨[.ref z], []⟩) (fun fin s' => ∃ v, fin = .done (.ret v) ∧ Q v s') E s := by
  show wpAny _ _ (field (.ref z) 2 >>= _) _ _ _
  refine wpAny_bind (wpAny_field hz rfl (x := .bool false) rfl ?_)
  show wpAny _ _ (field (.ref z) 3 >>= _) _ _ _
  refine wpAny_bind (wpAny_field hz rfl (x := .ref TI) rfl ?_)
  refine wpAny_bind (wpAny_seqItems hTI rfl ?_)
  show wpAny _ _ (Builtin.SmallTypes.ownedTupleIsFree (.ref z) >>= _) _ _ _
  refine wpAny_bind ?_
  unfold Builtin.SmallTypes.ownedTupleIsFree
  refine wpAny_bind (wpAny_field hz rfl (x := .none) rfl (wpAny_pure ?_))
  simp only [if_true]
  refine wpAny_bind (wpAny_rule ?_)
  refine wpAny_bind (wpAny_field hz rfl (x := .ref TO) rfl ?_)
  refine wpAny_bind (wpAny_setField_rec hz (by simp) fun g1 hz₁ hs₁ => ?_)
  replace hz₁ : IsZip g1 z TI TO .ellipsis := hz₁
  refine wpAny_bind ?_
  simp only [List.zipIdx_cons, List.zipIdx_nil, List.forIn_cons, List.forIn_nil]
  refine wpAny_bind (wpAny_bind (wpAny_onRaise ?_))
  show wpAny _ _ (Builtin.SmallTypes.nextOf (.ref i1) >>= _) _ _ _
  refine wpAny_bind (wpAny_nextOf_list_item (h1.extBut hs₁.extBut (by (have e1 := (D).a1; have e2 := (D).a2; have e3 := (D).a3; have e4 := (D).b1; have e5 := (D).b2; have e6 := (D).b3; have e7 := (D).b4; have e8 := (D).b5; clear D; first | exact Nat.ne_of_lt (by omega) | exact Nat.ne_of_gt (by omega)))) (hl1.extBut hs₁.extBut (by (have e1 := (D).a1; have e2 := (D).a2; have e3 := (D).a3; have e4 := (D).b1; have e5 := (D).b2; have e6 := (D).b3; have e7 := (D).b4; have e8 := (D).b5; clear D; first | exact Nat.ne_of_lt (by omega) | exact Nat.ne_of_gt (by omega)))) hx fun g2 h1' hs₂ => wpAny_pure ?_)
  have hTO₂ : IsTri g2 TO a b c := hs₂.extBut _ _ (by (have e1 := (D).a1; have e2 := (D).a2; have e3 := (D).a3; have e4 := (D).b1; have e5 := (D).b2; have e6 := (D).b3; have e7 := (D).b4; have e8 := (D).b5; clear D; first | exact Nat.ne_of_lt (by omega) | exact Nat.ne_of_gt (by omega))) (hs₁.extBut _ _ (by (have e1 := (D).a1; have e2 := (D).a2; have e3 := (D).a3; have e4 := (D).b1; have e5 := (D).b2; have e6 := (D).b3; have e7 := (D).b4; have e8 := (D).b5; clear D; first | exact Nat.ne_of_lt (by omega) | exact Nat.ne_of_gt (by omega))) hTO)
  refine wpAny_bind (wpAny_seqItems hTO₂ rfl ?_)
  refine wpAny_bind (upd_tri hTO₂ fun g3 hTO₃ hs₃ => ?_)
  replace hTO₃ : IsTri g3 TO x b c := hTO₃
  refine wpAny_bind (wpAny_letGo (wpAny_pure ?_))
  refine wpAny_bind (wpAny_bind (wpAny_onRaise ?_))
  show wpAny _ _ (Builtin.SmallTypes.nextOf (.ref i2) >>= _) _ _ _
  refine wpAny_bind (wpAny_nextOf_list_item (((h2.extBut hs₁.extBut (by (have e1 := (D).a1; have e2 := (D).a2; have e3 := (D).a3; have e4 := (D).b1; have e5 := (D).b2; have e6 := (D).b3; have e7 := (D).b4; have e8 := (D).b5; clear D; first | exact Nat.ne_of_lt (by omega) | exact Nat.ne_of_gt (by omega)))).extBut hs₂.extBut (by (have e1 := (D).a1; have e2 := (D).a2; have e3 := (D).a3; have e4 := (D).b1; have e5 := (D).b2; have e6 := (D).b3; have e7 := (D).b4; have e8 := (D).b5; clear D; first | exact Nat.ne_of_lt (by omega) | exact Nat.ne_of_gt (by omega)))).extBut hs₃.extBut (by (have e1 := (D).a1; have e2 := (D).a2; have e3 := (D).a3; have e4 := (D).b1; have e5 := (D).b2; have e6 := (D).b3; have e7 := (D).b4; have e8 := (D).b5; clear D; first | exact Nat.ne_of_lt (by omega) | exact Nat.ne_of_gt (by omega))))
    (((hl2.extBut hs₁.extBut (by (have e1 := (D).a1; have e2 := (D).a2; have e3 := (D).a3; have e4 := (D).b1; have e5 := (D).b2; have e6 := (D).b3; have e7 := (D).b4; have e8 := (D).b5; clear D; first | exact Nat.ne_of_lt (by omega) | exact Nat.ne_of_gt (by omega)))).extBut hs₂.extBut (by (have e1 := (D).a1; have e2 := (D).a2; have e3 := (D).a3; have e4 := (D).b1; have e5 := (D).b2; have e6 := (D).b3; have e7 := (D).b4; have e8 := (D).b5; clear D; first | exact Nat.ne_of_lt (by omega) | exact Nat.ne_of_gt (by omega)))).extBut hs₃.extBut (by (have e1 := (D).a1; have e2 := (D).a2; have e3 := (D).a3; have e4 := (D).b1; have e5 := (D).b2; have e6 := (D).b3; have e7 := (D).b4; have e8 := (D).b5; clear D; first | exact Nat.ne_of_lt (by omega) | exact Nat.ne_of_gt (by omega)))) hy fun g4 h2' hs₄ => wpAny_pure ?_)
  have hTO₄ : IsTri g4 TO x b c := hs₄.extBut _ _ (by (have e1 := (D).a1; have e2 := (D).a2; have e3 := (D).a3; have e4 := (D).b1; have e5 := (D).b2; have e6 := (D).b3; have e7 := (D).b4; have e8 := (D).b5; clear D; first | exact Nat.ne_of_lt (by omega) | exact Nat.ne_of_gt (by omega))) hTO₃
  refine wpAny_bind (wpAny_seqItems hTO₄ rfl ?_)
  refine wpAny_bind (upd_tri hTO₄ fun g5 hTO₅ hs₅ => ?_)
  replace hTO₅ : IsTri g5 TO x y c := hTO₅
  refine wpAny_bind (wpAny_letGo (wpAny_pure ?_))
  have to5 : ∀ e o, e ≠ z → e ≠ TO → e ≠ i1 → e ≠ i2 → s.heap.get? e = some o → g5.get? e = some o := fun e o c1 c2 c3 c4 q =>
    hs₅.extBut _ _ c2 (hs₄.extBut _ _ c4 (hs₃.extBut _ _ c2 (hs₂.extBut _ _ c3 (hs₁.extBut _ _ c1 q))))
  refine wpAny_bind (wpAny_bind (wpAny_onRaise ?_))
  show wpAny _ _ (Builtin.SmallTypes.nextOf (.ref i3) >>= _) _ _ _
  refine wpAny_bind (wpAny_nextOf_list_item (h3.at fun o e => to5 _ _ (by (have e1 := (D).a1; have e2 := (D).a2; have e3 := (D).a3; have e4 := (D).b1; have e5 := (D).b2; have e6 := (D).b3; have e7 := (D).b4; have e8 := (D).b5; clear D; first | exact Nat.ne_of_lt (by omega) | exact Nat.ne_of_gt (by omega))) (by (have e1 := (D).a1; have e2 := (D).a2; have e3 := (D).a3; have e4 := (D).b1; have e5 := (D).b2; have e6 := (D).b3; have e7 := (D).b4; have e8 := (D).b5; clear D; first | exact Nat.ne_of_lt (by omega) | exact Nat.ne_of_gt (by omega))) (by (have e1 := (D).a1; have e2 := (D).a2; have e3 := (D).a3; have e4 := (D).b1; have e5 := (D).b2; have e6 := (D).b3; have e7 := (D).b4; have e8 := (D).b5; clear D; first | exact Nat.ne_of_lt (by omega) | exact Nat.ne_of_gt (by omega))) (by (have e1 := (D).a1; have e2 := (D).a2; have e3 := (D).a3; have e4 := (D).b1; have e5 := (D).b2; have e6 := (D).b3; have e7 := (D).b4; have e8 := (D).b5; clear D; first | exact Nat.ne_of_lt (by omega) | exact Nat.ne_of_gt (by omega))) e)
    (hl3.at fun o e => to5 _ _ (by (have e1 := (D).a1; have e2 := (D).a2; have e3 := (D).a3; have e4 := (D).b1; have e5 := (D).b2; have e6 := (D).b3; have e7 := (D).b4; have e8 := (D).b5; clear D; first | exact Nat.ne_of_lt (by omega) | exact Nat.ne_of_gt (by omega))) (by (have e1 := (D).a1; have e2 := (D).a2; have e3 := (D).a3; have e4 := (D).b1; have e5 := (D).b2; have e6 := (D).b3; have e7 := (D).b4; have e8 := (D).b5; clear D; first | exact Nat.ne_of_lt (by omega) | exact Nat.ne_of_gt (by omega))) (by (have e1 := (D).a1; have e2 := (D).a2; have e3 := (D).a3; have e4 := (D).b1; have e5 := (D).b2; have e6 := (D).b3; have e7 := (D).b4; have e8 := (D).b5; clear D; first | exact Nat.ne_of_lt (by omega) | exact Nat.ne_of_gt (by omega))) (by (have e1 := (D).a1; have e2 := (D).a2; have e3 := (D).a3; have e4 := (D).b1; have e5 := (D).b2; have e6 := (D).b3; have e7 := (D).b4; have e8 := (D).b5; clear D; first | exact Nat.ne_of_lt (by omega) | exact Nat.ne_of_gt (by omega))) e) hv fun g6 h3' hs₆ => wpAny_pure ?_)
  have hTO₆ : IsTri g6 TO x y c := hs₆.extBut _ _ (by (have e1 := (D).a1; have e2 := (D).a2; have e3 := (D).a3; have e4 := (D).b1; have e5 := (D).b2; have e6 := (D).b3; have e7 := (D).b4; have e8 := (D).b5; clear D; first | exact Nat.ne_of_lt (by omega) | exact Nat.ne_of_gt (by omega))) hTO₅
  refine wpAny_bind (wpAny_seqItems hTO₆ rfl ?_)
  refine wpAny_bind (upd_tri hTO₆ fun g7 hTO₇ hs₇ => ?_)
  replace hTO₇ : IsTri g7 TO x y v := hTO₇
  refine wpAny_bind (wpAny_letGo (wpAny_pure (wpAny_pure ?_)))
  refine wpAny_bind (wpAny_seqItems hTO₇ rfl ?_)
  refine wpAny_bind (wpAny_newTuple ?_)
  have hsz : g7.objs.size = s.heap.objs.size := by rw [hs₇.1, hs₆.1, hs₅.1, hs₄.1, hs₃.1, hs₂.1, hs₁.1]
  have hz₇ : IsZip g7 z TI TO .ellipsis := hs₇.extBut _ _ (by (have e1 := (D).a1; have e2 := (D).a2; have e3 := (D).a3; have e4 := (D).b1; have e5 := (D).b2; have e6 := (D).b3; have e7 := (D).b4; have e8 := (D).b5; clear D; first | exact Nat.ne_of_lt (by omega) | exact Nat.ne_of_gt (by omega))) (hs₆.extBut _ _ (by (have e1 := (D).a1; have e2 := (D).a2; have e3 := (D).a3; have e4 := (D).b1; have e5 := (D).b2; have e6 := (D).b3; have e7 := (D).b4; have e8 := (D).b5; clear D; first | exact Nat.ne_of_lt (by omega) | exact Nat.ne_of_gt (by omega))) (hs₅.extBut _ _ (by (have e1 := (D).a1; have e2 := (D).a2; have e3 := (D).a3; have e4 := (D).b1; have e5 := (D).b2; have e6 := (D).b3; have e7 := (D).b4; have e8 := (D).b5; clear D; first | exact Nat.ne_of_lt (by omega) | exact Nat.ne_of_gt (by omega))) (hs₄.extBut _ _ (by (have e1 := (D).a1; have e2 := (D).a2; have e3 := (D).a3; have e4 := (D).b1; have e5 := (D).b2; have e6 := (D).b3; have e7 := (D).b4; have e8 := (D).b5; clear D; first | exact Nat.ne_of_lt (by omega) | exact Nat.ne_of_gt (by omega))) (hs₃.extBut _ _ (by (have e1 := (D).a1; have e2 := (D).a2; have e3 := (D).a3; have e4 := (D).b1; have e5 := (D).b2; have e6 := (D).b3; have e7 := (D).b4; have e8 := (D).b5; clear D; first | exact Nat.ne_of_lt (by omega) | exact Nat.ne_of_gt (by omega))) (hs₂.extBut _ _ (by (have e1 := (D).a1; have e2 := (D).a2; have e3 := (D).a3; have e4 := (D).b1; have e5 := (D).b2; have e6 := (D).b3; have e7 := (D).b4; have e8 := (D).b5; clear D; first | exact Nat.ne_of_lt (by omega) | exact Nat.ne_of_gt (by omega))) hz₁)))))
  have hk : ∀ e o, e ≠ z → e ≠ TO → e ≠ i1 → e ≠ i2 → e ≠ i3 → s.heap.get? e = some o → g7.get? e = some o := fun e o c1 c2 c3 c4 c5 q =>
    hs₇.extBut _ _ c2 (hs₆.extBut _ _ c5 (to5 e o c1 c2 c3 c4 q))
  have k1 : g7.IsListIter i1 l1 (k + 1) := ((((h1'.extBut hs₃.extBut (by (have e1 := (D).a1; have e2 := (D).a2; have e3 := (D).a3; have e4 := (D).b1; have e5 := (D).b2; have e6 := (D).b3; have e7 := (D).b4; have e8 := (D).b5; clear D; first | exact Nat.ne_of_lt (by omega) | exact Nat.ne_of_gt (by omega)))).extBut hs₄.extBut (by (have e1 := (D).a1; have e2 := (D).a2; have e3 := (D).a3; have e4 := (D).b1; have e5 := (D).b2; have e6 := (D).b3; have e7 := (D).b4; have e8 := (D).b5; clear D; first | exact Nat.ne_of_lt (by omega) | exact Nat.ne_of_gt (by omega)))).extBut hs₅.extBut (by (have e1 := (D).a1; have e2 := (D).a2; have e3 := (D).a3; have e4 := (D).b1; have e5 := (D).b2; have e6 := (D).b3; have e7 := (D).b4; have e8 := (D).b5; clear D; first | exact Nat.ne_of_lt (by omega) | exact Nat.ne_of_gt (by omega)))).extBut hs₆.extBut (by (have e1 := (D).a1; have e2 := (D).a2; have e3 := (D).a3; have e4 := (D).b1; have e5 := (D).b2; have e6 := (D).b3; have e7 := (D).b4; have e8 := (D).b5; clear D; first | exact Nat.ne_of_lt (by omega) | exact Nat.ne_of_gt (by omega)))).extBut hs₇.extBut (by (have e1 := (D).a1; have e2 := (D).a2; have e3 := (D).a3; have e4 := (D).b1; have e5 := (D).b2; have e6 := (D).b3; have e7 := (D).b4; have e8 := (D).b5; clear D; first | exact Nat.ne_of_lt (by omega) | exact Nat.ne_of_gt (by omega)))
  have k2 : g7.IsListIter i2 l2 (k + 1) := ((h2'.extBut hs₅.extBut (by (have e1 := (D).a1; have e2 := (D).a2; have e3 := (D).a3; have e4 := (D).b1; have e5 := (D).b2; have e6 := (D).b3; have e7 := (D).b4; have e8 := (D).b5; clear D; first | exact Nat.ne_of_lt (by omega) | exact Nat.ne_of_gt (by omega)))).extBut hs₆.extBut (by (have e1 := (D).a1; have e2 := (D).a2; have e3 := (D).a3; have e4 := (D).b1; have e5 := (D).b2; have e6 := (D).b3; have e7 := (D).b4; have e8 := (D).b5; clear D; first | exact Nat.ne_of_lt (by omega) | exact Nat.ne_of_gt (by omega)))).extBut hs₇.extBut (by (have e1 := (D).a1; have e2 := (D).a2; have e3 := (D).a3; have e4 := (D).b1; have e5 := (D).b2; have e6 := (D).b3; have e7 := (D).b4; have e8 := (D).b5; clear D; first | exact Nat.ne_of_lt (by omega) | exact Nat.ne_of_gt (by omega)))
  have k3 : g7.IsListIter i3 l3 (k + 1) := h3'.extBut hs₇.extBut (by (have e1 := (D).a1; have e2 := (D).a2; have e3 := (D).a3; have e4 := (D).b1; have e5 := (D).b2; have e6 := (D).b3; have e7 := (D).b4; have e8 := (D).b5; clear D; first | exact Nat.ne_of_lt (by omega) | exact Nat.ne_of_gt (by omega)))
  have hzlt : z < g7.objs.size := Heap.lt_size hz₇
  show wpAny _ _ (Builtin.SmallTypes.ownedTupleHandOut (.ref z) (.ref g7.objs.size) >>= _) _ _ _
  refine wpAny_bind ?_
  unfold Builtin.SmallTypes.ownedTupleHandOut
  have hz₈ : IsZip (g7.push { cls := .type "tuple", data := .seq #[x, y, v] }) z TI TO .ellipsis := Heap.get?_push_of_some _ hz₇
  refine wpAny_bind (wpAny_setField_rec hz₈ (by simp) fun g8 hz₉ hs₈ => ?_)
  replace hz₉ : IsZip g8 z TI TO (rawInt g7.objs.size) := hz₉
  refine wpAny_setField_rec hz₉ (by simp) fun g9 hz₁₀ hs₉ => ?_
  replace hz₁₀ : IsZip g9 z TI TO (rawInt g7.objs.size) := hz₁₀
  have up : ∀ e o, e ≠ z → g7.get? e = some o → g9.get? e = some o := fun e o c1 q => hs₉.extBut _ _ c1 (hs₈.extBut _ _ c1 (Heap.get?_push_of_some _ q))
  have hT : IsTri g9 g7.objs.size x y v := hs₉.extBut _ _ (Nat.ne_of_gt hzlt) (hs₈.extBut _ _ (Nat.ne_of_gt hzlt) (Heap.get?_push_size _ rfl))
  rw [hsz] at hz₁₀ hT
  refine wpAny_pure ⟨_, rfl, ?_⟩
  show Q (.ref g7.objs.size) _
  rw [hsz]
  exact hQ g9 hz₁₀ (up _ _ (by (have e1 := (D).a1; have e2 := (D).a2; have e3 := (D).a3; have e4 := (D).b1; have e5 := (D).b2; have e6 := (D).b3; have e7 := (D).b4; have e8 := (D).b5; clear D; first | exact Nat.ne_of_lt (by omega) | exact Nat.ne_of_gt (by omega))) hTO₇) (k1.at fun o e => up _ o (by (have e1 := (D).a1; have e2 := (D).a2; have e3 := (D).a3; have e4 := (D).b1; have e5 := (D).b2; have e6 := (D).b3; have e7 := (D).b4; have e8 := (D).b5; clear D; first | exact Nat.ne_of_lt (by omega) | exact Nat.ne_of_gt (by omega))) e) (k2.at fun o e => up _ o (by (have e1 := (D).a1; have e2 := (D).a2; have e3 := (D).a3; have e4 := (D).b1; have e5 := (D).b2; have e6 := (D).b3; have e7 := (D).b4; have e8 := (D).b5; clear D; first | exact Nat.ne_of_lt (by omega) | exact Nat.ne_of_gt (by omega))) e) (k3.at fun o e => up _ o (by (have e1 := (D).a1; have e2 := (D).a2; have e3 := (D).a3; have e4 := (D).b1; have e5 := (D).b2; have e6 := (D).b3; have e7 := (D).b4; have e8 := (D).b5; clear D; first | exact Nat.ne_of_lt (by omega) | exact Nat.ne_of_gt (by omega))) e) hT
    fun e o c1 c2 c3 c4 c5 q => up e o c1 (hk e o c1 c2 c3 c4 c5 q)

theorem z3_next_end {z TI TO i1 i2 i3 l1 l2 l3 : Nat} {k : Nat} {xs : Array Value} {a b c : Value} {Q : Fin → Shared → Prop} (hh : A.handled = none) (D : Z3 z TI TO i1 i2 i3 l1 l2 l3)
    (hz : IsZip s.heap z TI TO .none) (hTI : IsTri s.heap TI (.ref i1) (.ref i2) (.ref i3)) (hTO : IsTri s.heap TO a b c)
    (h1 : s.heap.IsListIter i1 l1 k) (hl1 : s.heap.IsList l1 xs) (hx : xs[k]? = none)
    (hE : ∀ h' e, (∀ q o, q ≠ z → q ≠ TO → q ≠ i1 → q ≠ i2 → q ≠ i3 → s.heap.get? q = some o → h'.get? q = some o) → (∃ o, h'.get? e = some o ∧ o.cls = .type "StopIteration") → E (.ref e) { s with heap := h' }) :
    wpAny (model prog w) A (Builtin.«zip.__next__» ⟨[.ref z], []⟩) Q E s := by
  show wpAny _ _ (field (.ref z) 2 >>= _) _ _ _
  refine wpAny_bind (wpAny_field hz rfl (x := .bool false) rfl ?_)
  show wpAny _ _ (field (.ref z) 3 >>= _) _ _ _
  refine wpAny_bind (wpAny_field hz rfl (x := .ref TI) rfl ?_)
  refine wpAny_bind (wpAny_seqItems hTI rfl ?_)
  show wpAny _ _ (Builtin.SmallTypes.ownedTupleIsFree (.ref z) >>= _) _ _ _
  refine wpAny_bind ?_
  unfold Builtin.SmallTypes.ownedTupleIsFree
  refine wpAny_bind (wpAny_field hz rfl (x := .none) rfl (wpAny_pure ?_))
  simp only [if_true]
  refine wpAny_bind (wpAny_rule ?_)
  refine wpAny_bind (wpAny_field hz rfl (x := .ref TO) rfl ?_)
  refine wpAny_bind (wpAny_setField_rec hz (by simp) fun g1 hz₁ hs₁ => ?_)
  replace hz₁ : IsZip g1 z TI TO .ellipsis := hz₁
  refine wpAny_bind ?_
  simp only [List.zipIdx_cons, List.zipIdx_nil, List.forIn_cons, List.forIn_nil]
  refine wpAny_bind (wpAny_bind (wpAny_onRaise ?_))
  show wpAny _ _ (Builtin.SmallTypes.nextOf (.ref i1) >>= _) _ _ _
  refine wpAny_bind (wpAny_nextOf_list_end hh (h1.extBut hs₁.extBut (by (have e1 := (D).a1; have e2 := (D).a2; have e3 := (D).a3; have e4 := (D).b1; have e5 := (D).b2; have e6 := (D).b3; have e7 := (D).b4; have e8 := (D).b5; clear D; first | exact Nat.ne_of_lt (by omega) | exact Nat.ne_of_gt (by omega)))) (hl1.extBut hs₁.extBut (by (have e1 := (D).a1; have e2 := (D).a2; have e3 := (D).a3; have e4 := (D).b1; have e5 := (D).b2; have e6 := (D).b3; have e7 := (D).b4; have e8 := (D).b5; clear D; first | exact Nat.ne_of_lt (by omega) | exact Nat.ne_of_gt (by omega)))) hx fun g2 e hs₂ he => ?_)
  obtain ⟨oe, hoe, hce⟩ := he
  have hz₂ : IsZip g2 z TI TO .ellipsis := hs₂ _ _ (by (have e1 := (D).a1; have e2 := (D).a2; have e3 := (D).a3; have e4 := (D).b1; have e5 := (D).b2; have e6 := (D).b3; have e7 := (D).b4; have e8 := (D).b5; clear D; first | exact Nat.ne_of_lt (by omega) | exact Nat.ne_of_gt (by omega))) hz₁
  have hez : e ≠ z := fun x => by subst x; rw [hz₂] at hoe; cases hoe; simp at hce
  exact wpAny_setField_rec hz₂ (by simp) fun g3 _ hs₃ => hE g3 e (fun q o c1 _ c3 _ _ x => hs₃.extBut _ _ c1 (hs₂ _ _ c3 (hs₁.extBut _ _ c1 x))) ⟨oe, hs₃.extBut _ _ hez hoe, hce⟩

theorem WalksU.zip3 (hh : A.handled = none) {z TI TO i1 i2 i3 l1 l2 l3 : Nat} (D : Z3 z TI TO i1 i2 i3 l1 l2 l3) (xs ys zs : Array Value) (n : Nat) (n1 : xs.size = n) (n2 : ys.size = n) (n3 : zs.size = n) :
    WalksU prog w A z [z, TI, TO, i1, i2, i3, l1, l2, l3] [z, TO, i1, i2, i3] n
      (fun i vals => ∃ x y v, xs[i]? = some x ∧ ys[i]? = some y ∧ zs[i]? = some v ∧ vals = #[x, y, v])
      (fun i h => IsZip h z TI TO .none ∧ IsTri h TI (.ref i1) (.ref i2) (.ref i3) ∧ (∃ a b c, IsTri h TO a b c) ∧ h.IsListIter i1 l1 i ∧ h.IsListIter i2 l2 i ∧ h.IsListIter i3 l3 i ∧ h.IsList l1 xs ∧ h.IsList l2 ys ∧ h.IsList l3 zs)
      (fun i T h => IsZip h z TI TO (rawInt T) ∧ IsTri h TI (.ref i1) (.ref i2) (.ref i3) ∧ (∃ a b c, IsTri h TO a b c) ∧ h.IsListIter i1 l1 (i + 1) ∧ h.IsListIter i2 l2 (i + 1) ∧ h.IsListIter i3 l3 (i + 1) ∧ h.IsList l1 xs ∧ h.IsList l2 ys ∧ h.IsList l3 zs ∧
        T ≠ z ∧ T ≠ TO ∧ T ≠ i1 ∧ T ≠ i2 ∧ T ≠ i3) where
  sub := fun c hc => by simp at hc ⊢; rcases hc with rfl | rfl | rfl | rfl | rfl <;> simp
  frame := fun i h h' hst hk => by
    obtain ⟨hz, hTI, ⟨a, b, c, hTO⟩, h1, h2, h3, hl1, hl2, hl3⟩ := hst
    exact ⟨hk z (by simp) _ hz, hk TI (by simp) _ hTI, ⟨a, b, c, hk TO (by simp) _ hTO⟩, h1.at fun o e => hk i1 (by simp) o e, h2.at fun o e => hk i2 (by simp) o e, h3.at fun o e => hk i3 (by simp) o e,
      hl1.at fun o e => hk l1 (by simp) o e, hl2.at fun o e => hk l2 (by simp) o e, hl3.at fun o e => hk l3 (by simp) o e⟩
  item := fun i s Q E hi hst hQ => by
    obtain ⟨hz, hTI, ⟨a, b, c, hTO⟩, h1, h2, h3, hl1, hl2, hl3⟩ := hst
    have hix : i < xs.size := by omega
    have hiy : i < ys.size := by omega
    have hiz : i < zs.size := by omega
    have hT : s.TypeIs (.ref z) "zip" := ⟨_, hz, rfl⟩
    unfold pyNext
    refine wpAny_bind (wpAny_attempt (wpAny_callSpecial?_slot (name := Str.ofString "__next__") hT F.slot_zip_next
      (wpAny_call_entry F.slot_zip_next hT F.entry_zip_next
        (z3_next_item D hz hTI hTO h1 h2 h3 hl1 hl2 hl3 (Array.getElem?_eq_getElem hix) (Array.getElem?_eq_getElem hiy) (Array.getElem?_eq_getElem hiz) fun h' a1 a2 a3 a4 a5 a6 hk => wpAny_pure ?_) (F.args_zip_next_1 _))))
    have lt : ∀ {c o}, s.heap.get? c = some o → s.heap.objs.size ≠ c := fun e => Nat.ne_of_gt (Heap.lt_size e)
    exact hQ s.heap.objs.size #[xs[i], ys[i], zs[i]] h' s.toks ⟨_, _, _, Array.getElem?_eq_getElem hix, Array.getElem?_eq_getElem hiy, Array.getElem?_eq_getElem hiz, rfl⟩ ⟨_, a6, rfl, _, rfl⟩
      ⟨a1, hk _ _ (by (have e1 := (D).a1; have e2 := (D).a2; have e3 := (D).a3; have e4 := (D).b1; have e5 := (D).b2; have e6 := (D).b3; have e7 := (D).b4; have e8 := (D).b5; clear D; first | exact Nat.ne_of_lt (by omega) | exact Nat.ne_of_gt (by omega))) (by (have e1 := (D).a1; have e2 := (D).a2; have e3 := (D).a3; have e4 := (D).b1; have e5 := (D).b2; have e6 := (D).b3; have e7 := (D).b4; have e8 := (D).b5; clear D; first | exact Nat.ne_of_lt (by omega) | exact Nat.ne_of_gt (by omega))) (by (have e1 := (D).a1; have e2 := (D).a2; have e3 := (D).a3; have e4 := (D).b1; have e5 := (D).b2; have e6 := (D).b3; have e7 := (D).b4; have e8 := (D).b5; clear D; first | exact Nat.ne_of_lt (by omega) | exact Nat.ne_of_gt (by omega))) (by (have e1 := (D).a1; have e2 := (D).a2; have e3 := (D).a3; have e4 := (D).b1; have e5 := (D).b2; have e6 := (D).b3; have e7 := (D).b4; have e8 := (D).b5; clear D; first | exact Nat.ne_of_lt (by omega) | exact Nat.ne_of_gt (by omega))) (by (have e1 := (D).a1; have e2 := (D).a2; have e3 := (D).a3; have e4 := (D).b1; have e5 := (D).b2; have e6 := (D).b3; have e7 := (D).b4; have e8 := (D).b5; clear D; first | exact Nat.ne_of_lt (by omega) | exact Nat.ne_of_gt (by omega))) hTI, ⟨_, _, _, a2⟩, a3, a4, a5, hl1.at fun o e => hk _ o (by (have e1 := (D).a1; have e2 := (D).a2; have e3 := (D).a3; have e4 := (D).b1; have e5 := (D).b2; have e6 := (D).b3; have e7 := (D).b4; have e8 := (D).b5; clear D; first | exact Nat.ne_of_lt (by omega) | exact Nat.ne_of_gt (by omega))) (by (have e1 := (D).a1; have e2 := (D).a2; have e3 := (D).a3; have e4 := (D).b1; have e5 := (D).b2; have e6 := (D).b3; have e7 := (D).b4; have e8 := (D).b5; clear D; first | exact Nat.ne_of_lt (by omega) | exact Nat.ne_of_gt (by omega))) (by (have e1 := (D).a1; have e2 := (D).a2; have e3 := (D).a3; have e4 := (D).b1; have e5 := (D).b2; have e6 := (D).b3; have e7 := (D).b4; have e8 := (D).b5; clear D; first | exact Nat.ne_of_lt (by omega) | exact Nat.ne_of_gt (by omega))) (by (have e1 := (D).a1; have e2 := (D).a2; have e3 := (D).a3; have e4 := (D).b1; have e5 := (D).b2; have e6 := (D).b3; have e7 := (D).b4; have e8 := (D).b5; clear D; first | exact Nat.ne_of_lt (by omega) | exact Nat.ne_of_gt (by omega))) (by (have e1 := (D).a1; have e2 := (D).a2; have e3 := (D).a3; have e4 := (D).b1; have e5 := (D).b2; have e6 := (D).b3; have e7 := (D).b4; have e8 := (D).b5; clear D; first | exact Nat.ne_of_lt (by omega) | exact Nat.ne_of_gt (by omega))) e,
        hl2.at fun o e => hk _ o (by (have e1 := (D).a1; have e2 := (D).a2; have e3 := (D).a3; have e4 := (D).b1; have e5 := (D).b2; have e6 := (D).b3; have e7 := (D).b4; have e8 := (D).b5; clear D; first | exact Nat.ne_of_lt (by omega) | exact Nat.ne_of_gt (by omega))) (by (have e1 := (D).a1; have e2 := (D).a2; have e3 := (D).a3; have e4 := (D).b1; have e5 := (D).b2; have e6 := (D).b3; have e7 := (D).b4; have e8 := (D).b5; clear D; first | exact Nat.ne_of_lt (by omega) | exact Nat.ne_of_gt (by omega))) (by (have e1 := (D).a1; have e2 := (D).a2; have e3 := (D).a3; have e4 := (D).b1; have e5 := (D).b2; have e6 := (D).b3; have e7 := (D).b4; have e8 := (D).b5; clear D; first | exact Nat.ne_of_lt (by omega) | exact Nat.ne_of_gt (by omega))) (by (have e1 := (D).a1; have e2 := (D).a2; have e3 := (D).a3; have e4 := (D).b1; have e5 := (D).b2; have e6 := (D).b3; have e7 := (D).b4; have e8 := (D).b5; clear D; first | exact Nat.ne_of_lt (by omega) | exact Nat.ne_of_gt (by omega))) (by (have e1 := (D).a1; have e2 := (D).a2; have e3 := (D).a3; have e4 := (D).b1; have e5 := (D).b2; have e6 := (D).b3; have e7 := (D).b4; have e8 := (D).b5; clear D; first | exact Nat.ne_of_lt (by omega) | exact Nat.ne_of_gt (by omega))) e, hl3.at fun o e => hk _ o (by (have e1 := (D).a1; have e2 := (D).a2; have e3 := (D).a3; have e4 := (D).b1; have e5 := (D).b2; have e6 := (D).b3; have e7 := (D).b4; have e8 := (D).b5; clear D; first | exact Nat.ne_of_lt (by omega) | exact Nat.ne_of_gt (by omega))) (by (have e1 := (D).a1; have e2 := (D).a2; have e3 := (D).a3; have e4 := (D).b1; have e5 := (D).b2; have e6 := (D).b3; have e7 := (D).b4; have e8 := (D).b5; clear D; first | exact Nat.ne_of_lt (by omega) | exact Nat.ne_of_gt (by omega))) (by (have e1 := (D).a1; have e2 := (D).a2; have e3 := (D).a3; have e4 := (D).b1; have e5 := (D).b2; have e6 := (D).b3; have e7 := (D).b4; have e8 := (D).b5; clear D; first | exact Nat.ne_of_lt (by omega) | exact Nat.ne_of_gt (by omega))) (by (have e1 := (D).a1; have e2 := (D).a2; have e3 := (D).a3; have e4 := (D).b1; have e5 := (D).b2; have e6 := (D).b3; have e7 := (D).b4; have e8 := (D).b5; clear D; first | exact Nat.ne_of_lt (by omega) | exact Nat.ne_of_gt (by omega))) (by (have e1 := (D).a1; have e2 := (D).a2; have e3 := (D).a3; have e4 := (D).b1; have e5 := (D).b2; have e6 := (D).b3; have e7 := (D).b4; have e8 := (D).b5; clear D; first | exact Nat.ne_of_lt (by omega) | exact Nat.ne_of_gt (by omega))) e,
        lt hz, lt hTO, (by obtain ⟨_, e, _⟩ := h1; exact lt e), (by obtain ⟨_, e, _⟩ := h2; exact lt e), (by obtain ⟨_, e, _⟩ := h3; exact lt e)⟩
      fun c o hc e => hk c o (fun x => hc (by simp [x])) (fun x => hc (by simp [x])) (fun x => hc (by simp [x])) (fun x => hc (by simp [x])) (fun x => hc (by simp [x])) e
  go := fun elts k pos i T s Q E hm hQ => by
    obtain ⟨hz, hTI, ⟨a, b, c, hTO⟩, h1, h2, h3, hl1, hl2, hl3, _⟩ := hm
    refine wpAny_letOwnedTupleGo_zip hz fun h' hz' hs' => hQ h' ⟨hz', hs'.extBut _ _ (by (have e1 := (D).a1; have e2 := (D).a2; have e3 := (D).a3; have e4 := (D).b1; have e5 := (D).b2; have e6 := (D).b3; have e7 := (D).b4; have e8 := (D).b5; clear D; first | exact Nat.ne_of_lt (by omega) | exact Nat.ne_of_gt (by omega))) hTI, ⟨a, b, c, hs'.extBut _ _ (by (have e1 := (D).a1; have e2 := (D).a2; have e3 := (D).a3; have e4 := (D).b1; have e5 := (D).b2; have e6 := (D).b3; have e7 := (D).b4; have e8 := (D).b5; clear D; first | exact Nat.ne_of_lt (by omega) | exact Nat.ne_of_gt (by omega))) hTO⟩, h1.extBut hs'.extBut (by (have e1 := (D).a1; have e2 := (D).a2; have e3 := (D).a3; have e4 := (D).b1; have e5 := (D).b2; have e6 := (D).b3; have e7 := (D).b4; have e8 := (D).b5; clear D; first | exact Nat.ne_of_lt (by omega) | exact Nat.ne_of_gt (by omega))), h2.extBut hs'.extBut (by (have e1 := (D).a1; have e2 := (D).a2; have e3 := (D).a3; have e4 := (D).b1; have e5 := (D).b2; have e6 := (D).b3; have e7 := (D).b4; have e8 := (D).b5; clear D; first | exact Nat.ne_of_lt (by omega) | exact Nat.ne_of_gt (by omega))), h3.extBut hs'.extBut (by (have e1 := (D).a1; have e2 := (D).a2; have e3 := (D).a3; have e4 := (D).b1; have e5 := (D).b2; have e6 := (D).b3; have e7 := (D).b4; have e8 := (D).b5; clear D; first | exact Nat.ne_of_lt (by omega) | exact Nat.ne_of_gt (by omega))),
      hl1.extBut hs'.extBut (by (have e1 := (D).a1; have e2 := (D).a2; have e3 := (D).a3; have e4 := (D).b1; have e5 := (D).b2; have e6 := (D).b3; have e7 := (D).b4; have e8 := (D).b5; clear D; first | exact Nat.ne_of_lt (by omega) | exact Nat.ne_of_gt (by omega))), hl2.extBut hs'.extBut (by (have e1 := (D).a1; have e2 := (D).a2; have e3 := (D).a3; have e4 := (D).b1; have e5 := (D).b2; have e6 := (D).b3; have e7 := (D).b4; have e8 := (D).b5; clear D; first | exact Nat.ne_of_lt (by omega) | exact Nat.ne_of_gt (by omega))), hl3.extBut hs'.extBut (by (have e1 := (D).a1; have e2 := (D).a2; have e3 := (D).a3; have e4 := (D).b1; have e5 := (D).b2; have e6 := (D).b3; have e7 := (D).b4; have e8 := (D).b5; clear D; first | exact Nat.ne_of_lt (by omega) | exact Nat.ne_of_gt (by omega)))⟩ fun c o hc e => hs'.extBut _ _ (fun x => hc (by simp [x])) e
  apart := fun i T h hm hT => by
    obtain ⟨_, _, _, _, _, _, _, _, _, t1, t2, t3, t4, t5⟩ := hm
    simp at hT
    rcases hT with rfl | rfl | rfl | rfl | rfl
    · exact t1 rfl
    · exact t2 rfl
    · exact t3 rfl
    · exact t4 rfl
    · exact t5 rfl
  done := fun s Q E hst hQ => by
    obtain ⟨hz, hTI, ⟨a, b, c, hTO⟩, h1, h2, h3, hl1, hl2, hl3⟩ := hst
    have hT : s.TypeIs (.ref z) "zip" := ⟨_, hz, rfl⟩
    unfold pyNext
    refine wpAny_bind (wpAny_attempt (wpAny_callSpecial?_slot (name := Str.ofString "__next__") hT F.slot_zip_next
      (wpAny_call_entry F.slot_zip_next hT F.entry_zip_next (z3_next_end hh D hz hTI hTO h1 hl1 (Array.getElem?_eq_none (by omega)) fun h' e hk he => ?_) (F.args_zip_next_1 _))))
    obtain ⟨o, ho, hc⟩ := he
    refine wpAny_bind (wpAny_isInstance (T := "StopIteration") (b := true) ⟨o, ho, hc⟩ isSubtype_stop ?_)
    exact wpAny_pure (hQ h' s.toks fun c o hc e => hk c o (fun x => hc (by simp [x])) (fun x => hc (by simp [x])) (fun x => hc (by simp [x])) (fun x => hc (by simp [x])) (fun x => hc (by simp [x])) e)
  self := fun i s Q E hst hQ => wpAny_pyIter_zip hst.1 hQ

abbrev gIt (h : Heap) (l : Addr) : Heap := h.push { cls := .type "list_iterator", data := .fields #[.ref l, .int 0 0] }
abbrev g3 (h : Heap) (l1 l2 l3 : Addr) : Heap := gIt (gIt (gIt h l1) l2) l3
abbrev g4 (h : Heap) (l1 l2 l3 : Addr) : Heap := (g3 h l1 l2 l3).push { cls := .type "tuple", data := .seq #[.ref h.objs.size, .ref (gIt h l1).objs.size, .ref (gIt (gIt h l1) l2).objs.size] }
abbrev g5 (h : Heap) (l1 l2 l3 : Addr) : Heap := (g4 h l1 l2 l3).push { cls := .type "tuple", data := .seq #[.none, .none, .none] }
abbrev g6 (h : Heap) (l1 l2 l3 : Addr) : Heap := (g5 h l1 l2 l3).push { cls := .type "zip", data := .fields #[.none, .bool false, .bool false, .ref (g3 h l1 l2 l3).objs.size, .ref (g4 h l1 l2 l3).objs.size] }

set_option maxHeartbeats 4000000 in
theorem z3_meets (l1 l2 l3 : Addr) (xs ys zs : Array Value) :
    Meets (Builtin.«zip.__new__» ⟨[.type "zip", .ref l1, .ref l2, .ref l3], []⟩) (fun _ R s => s.heap.IsList l1 xs ∧ s.heap.IsList l2 ys ∧ s.heap.IsList l3 zs ∧
      R (.ok (.ret (.ref (g5 s.heap l1 l2 l3).objs.size))) { s with heap := g6 s.heap l1 l2 l3 }) :=
  .of_wp fun prog w A R s h => by
    obtain ⟨hp, g, d, tk, os⟩ := s; obtain ⟨hl1, hl2, hl3, h⟩ := h
    have hsub := sub_zip
    have hL1 : Heap.IsList (Shared.heap ⟨hp, g, d, tk, os⟩) l1 xs := hl1
    have hL2 : Heap.IsList (Shared.heap ⟨gIt hp l1, g, d, tk, os⟩) l2 ys := Heap.IsList.push hl2 _
    have hL3 : Heap.IsList (Shared.heap ⟨gIt (gIt hp l1) l2, g, d, tk, os⟩) l3 zs := Heap.IsList.push (Heap.IsList.push hl3 _) _
    wp_walk using wpAny_pyIter_list hL1, wpAny_pyIter_list hL2, wpAny_pyIter_list hL3
    exact ⟨_, rfl, h⟩

theorem call_zip_3 {l1 l2 l3 : Addr} {xs ys zs : Array Value} {Q : Value → Shared → Prop} (hl1 : s.heap.IsList l1 xs) (hl2 : s.heap.IsList l2 ys) (hl3 : s.heap.IsList l3 zs)
    (h : ∀ h' (N : Nat), s.heap.objs.size = N → IsZip h' (N + 5) (N + 3) (N + 4) .none → IsTri h' (N + 3) (.ref N) (.ref (N + 1)) (.ref (N + 2)) →
      IsTri h' (N + 4) .none .none .none → h'.IsListIter N l1 0 → h'.IsListIter (N + 1) l2 0 → h'.IsListIter (N + 2) l3 0 → h'.objs.size = N + 6 →
      (∀ c o, s.heap.get? c = some o → h'.get? c = some o) → Q (.ref (N + 5)) { s with heap := h' }) :
    wpAny (model prog w) A (call (.type "zip") [.ref l1, .ref l2, .ref l3]) Q E s := by
  refine callType_new F.called_zip (by decide) (z3_typeCall _ _ _) (z3_newCall _ _ _) (fun obj => z3_args obj _ _ _) F.entry_zip_new
    (z3_meets l1 l2 l3 xs ys zs) ⟨hl1, hl2, hl3, ?_⟩
  have z1 : (gIt s.heap l1).objs.size = s.heap.objs.size + 1 := Heap.size_push ..
  have z2 : (gIt (gIt s.heap l1) l2).objs.size = s.heap.objs.size + 2 := by rw [Heap.size_push, z1]
  have z3 : (g3 s.heap l1 l2 l3).objs.size = s.heap.objs.size + 3 := by rw [Heap.size_push, z2]
  have z4 : (g4 s.heap l1 l2 l3).objs.size = s.heap.objs.size + 4 := by rw [Heap.size_push, z3]
  have z5 : (g5 s.heap l1 l2 l3).objs.size = s.heap.objs.size + 5 := by rw [Heap.size_push, z4]
  have z6 : (g6 s.heap l1 l2 l3).objs.size = s.heap.objs.size + 6 := by rw [Heap.size_push, z5]
  have p6 : (g6 s.heap l1 l2 l3).get? (g5 s.heap l1 l2 l3).objs.size = some _ := Heap.get?_push_size _ rfl
  have p5 : (g6 s.heap l1 l2 l3).get? (g4 s.heap l1 l2 l3).objs.size = some _ := Heap.get?_push_of_some _ (Heap.get?_push_size _ rfl)
  have p4 : (g6 s.heap l1 l2 l3).get? (g3 s.heap l1 l2 l3).objs.size = some _ := Heap.get?_push_of_some _ (Heap.get?_push_of_some _ (Heap.get?_push_size _ rfl))
  have p3 : (g6 s.heap l1 l2 l3).get? (gIt (gIt s.heap l1) l2).objs.size = some _ := Heap.get?_push_of_some _ (Heap.get?_push_of_some _ (Heap.get?_push_of_some _ (Heap.get?_push_size _ rfl)))
  have p2 : (g6 s.heap l1 l2 l3).get? (gIt s.heap l1).objs.size = some _ := Heap.get?_push_of_some _ (Heap.get?_push_of_some _ (Heap.get?_push_of_some _ (Heap.get?_push_of_some _ (Heap.get?_push_size _ rfl))))
  have p1 : (g6 s.heap l1 l2 l3).get? s.heap.objs.size = some _ := Heap.get?_push_of_some _ (Heap.get?_push_of_some _ (Heap.get?_push_of_some _ (Heap.get?_push_of_some _ (Heap.get?_push_of_some _ (Heap.get?_push_size _ rfl)))))
  show _ ∧ _
  rw [z3, z4, z5] at p6
  rw [z4] at p5
  rw [z1, z2, z3] at p4
  rw [z2] at p3
  rw [z1] at p2
  rw [z5]
  exact ⟨⟨_, p6, rfl⟩, h _ _ rfl p6 p4 p5 ⟨_, p1, rfl, rfl⟩ ⟨_, p2, rfl, rfl⟩ ⟨_, p3, rfl, rfl⟩ z6 fun c o x =>
    Heap.get?_push_of_some _ (Heap.get?_push_of_some _ (Heap.get?_push_of_some _ (Heap.get?_push_of_some _ (Heap.get?_push_of_some _ (Heap.get?_push_of_some _ x)))))⟩
end

section
variable {prog : Program} {w : World} {A : Around} {s : Shared} {ev : Addr → Env} {Q : Value → Shared → Prop}
theorem zip3_pack {l1 l2 l3 : Addr} {xs ys zs : List Value} {n : Nat} (hh : A.handled = none) (hl1 : s.heap.IsList l1 xs.toArray) (hl2 : s.heap.IsList l2 ys.toArray) (hl3 : s.heap.IsList l3 zs.toArray)
    (hn1 : xs.length = n) (hn2 : ys.length = n) (hn3 : zs.length = n)
    (h : ∀ x h' tk, Kp s.heap h' → (∀ {elts : List Expr} {names : List Str} {k : Nat} {tp : Pos} {ev : Addr → Env}, Nms elts names → names.length = 3 → (∀ C, ∀ x ∈ names, (ev C).kindOf x = some .local) → (∀ C, (ev C).scope.kind = .function) →
        wpAny (model prog w) A (pyIter x) (Drawn prog w A (.Tuple elts k tp) ev (fun _ => False) n (BT names (fun i ws => ∃ x y v, xs[i]? = some x ∧ ys[i]? = some y ∧ zs[i]? = some v ∧ ws = [x, y, v])) s.heap { s with heap := h', toks := tk }) F0 { s with heap := h', toks := tk }) →
      Q x { s with heap := h', toks := tk }) : wpAny (model prog w) A (call (.type "zip") [.ref l1, .ref l2, .ref l3]) Q F0 s := by
  have lt1 : (id l1 : Nat) < s.heap.objs.size := by obtain ⟨o, e, _⟩ := hl1; exact Heap.lt_size e
  have lt2 : (id l2 : Nat) < s.heap.objs.size := by obtain ⟨o, e, _⟩ := hl2; exact Heap.lt_size e
  have lt3 : (id l3 : Nat) < s.heap.objs.size := by obtain ⟨o, e, _⟩ := hl3; exact Heap.lt_size e
  refine call_zip_3 hl1 hl2 hl3 fun h' N hN hz hTI hTO hi1 hi2 hi3 hsz hk' => h _ h' s.toks hk' (fun {elts names k tp ev} hE hnl hl hk => wpAny_pyIter_zip (s := { s with heap := h', toks := s.toks }) hz ?_)
  simp only [id] at lt1 lt2 lt3
  rw [hN] at lt1 lt2 lt3
  have D : Z3 (N + 5) (N + 3) (N + 4) N (N + 1) (N + 2) l1 l2 l3 := by constructor <;> omega
  have Wk := WalksU.zip3 (prog := prog) (w := w) hh D xs.toArray ys.toArray zs.toArray n (by simpa using hn1) (by simpa using hn2) (by simpa using hn3)
  refine ⟨N + 5, _, _, _, rfl, Iter.tupU (S := fun b => b < N) (g := s.heap) (B := fun i ws => ∃ x y v, xs[i]? = some x ∧ ys[i]? = some y ∧ zs[i]? = some v ∧ ws = [x, y, v]) Wk hE hh hl hk ?_ ?_,
    ⟨⟨hz, hTI, ⟨_, _, _, hTO⟩, hi1, hi2, hi3, hl1.at fun o e => hk' _ _ e, hl2.at fun o e => hk' _ _ e, hl3.at fun o e => hk' _ _ e⟩, fun b o _ e => hk' b o e⟩, ?_, fun _ q => q.elim, ?_, ⟨h', s.toks, rfl⟩, hk'⟩
  · intro b hb q
    simp at q
    rcases q with rfl | rfl | rfl | rfl | rfl <;> omega
  · rintro i vals hi ⟨x, y, v, hx, hy, hv, rfl⟩
    exact ⟨by simp [hnl], x, y, v, by simpa using hx, by simpa using hy, by simpa using hv, rfl⟩
  · intro b hb
    show b < h'.objs.size
    rw [hsz]
    rcases hb with hb | hb
    · omega
    · simp at hb; rcases hb with rfl | rfl | rfl | rfl | rfl | rfl | rfl | rfl | rfl <;> omega
  · intro b hb
    refine fresh_none ?_
    rw [hN]
    simp at hb
    rcases hb with rfl | rfl | rfl | rfl | rfl <;> omega
end
end
def cellT : Option (Str × Str) → Dat
  | none => .none
  | some (n, x) => .tuple [.str n, .str x]
def attrT (i : Nat) (c : Str × Str) : Dat := .tuple [keyT i, .str c.1, .str c.2]
abbrev Row := Nat → Option (Str × Str)
def attrs (r : Row) : List Dat := (List.range 5).filterMap fun i => (r i).map (attrT i)
def RowOk (r : Row) : Prop := ∀ i c, r i = some c → PyData.strOk c.1 = true ∧ PyData.strOk c.2 = true
def RowL (h : Heap) (l : Addr) (r : Row) : Prop := RowOk r ∧ ∃ ys : List Value, h.PlainList l ys.toArray ∧ All2 (fun v i => RdT h v (cellT (r i))) ys (List.range 5)
def nameD5 (kd : Str) : Dat := if kd = "element" then .tuple [.str "e", .str "", .str "e"] else .str ""
def formD (kd wo : Str) (r : Row) : Dat := .tuple [.str kd, nameD5 kd, .str wo, .tuple (attrs r), .tuple []]
theorem all2_range {R : Value → Nat → Prop} {ys : List Value} {n : Nat} (h : All2 R ys (List.range n)) {i : Nat} {v : Value} (hv : ys[i]? = some v) : R v i := by
  obtain ⟨j, hj, r⟩ := h.get2 hv
  rw [List.getElem?_range (by have := (List.getElem?_eq_some_iff.mp hj).1; simpa using this)] at hj
  exact (Option.some.inj hj) ▸ r

section
variable {w : World} {mg mb : Str → Option Value} {A : Around} {s : Shared} {Q : Value → Shared → Prop}
set_option maxHeartbeats 4000000 in
theorem form_call (hh : A.handled = none) (hdp : A.depth + 8 < recursionLimit) (hu : A.units + 200 < cLine) (G : G0 w mg mb s.heap) {kd wo : Str} {t1 t2 : Tok} {r : Addr} {row : Row} (hr : RowL s.heap r row)
    (h : ∀ h' tk a, Kp s.heap h' → RdT h' (.ref a) (formD kd wo row) → Q (.ref a) { s with heap := h', toks := tk }) :
    wpAny (model PySem.Challenge.rw_xm0645_01.row.prog w) A (call (.ref 66) [.str kd t1, .str wo t2, .ref r]) Q F0 s := by
  (refine wpAny_call ?_; refine call_pos_ret (by omega) ((G).K 66 _ rfl) rfl (G).T.nolimit (codeRec_of (G).K rfl) rfl (locs rfl) ?_; intro h₁ F; have X := (G).K; have T := (G).T; have N := news0 F)
  ((repeat' (first | (k_unfold; (try dsimp only)) | (k_end; fail) | ((fail_if_success (with_reducible first | intro _ | refine st_and ?_ | refine st_ex ?_ | refine st_ex1 ?_ | refine st_eq ?_ | refine st_cr ?_ | refine st_td ?_ | refine st_tl ?_ | refine st_tt ?_ | refine st_tz ?_ | refine st_bs ?_ | refine st_ba ?_ | refine st_bp ?_ | refine st_bu ?_ | refine st_bg ?_ | refine st_sn ?_ | refine st_fo ?_ | refine st_al ?_ | refine st_ad ?_ | refine st_el ?_ | refine st_ed ?_ | refine st_cNq ?_ | refine st_cIn ?_ | refine st_cNn ?_)); first | walk1 | (dsimp only; (fail_if_success (with_reducible first | intro _ | refine st_and ?_ | refine st_ex ?_ | refine st_ex1 ?_ | refine st_eq ?_ | refine st_cr ?_ | refine st_td ?_ | refine st_tl ?_ | refine st_tt ?_ | refine st_tz ?_ | refine st_bs ?_ | refine st_ba ?_ | refine st_bp ?_ | refine st_bu ?_ | refine st_bg ?_ | refine st_sn ?_ | refine st_fo ?_ | refine st_al ?_ | refine st_ad ?_ | refine st_el ?_ | refine st_ed ?_ | refine st_cNq ?_ | refine st_cIn ?_ | refine st_cNn ?_)); walk1) | (leave1; walk_say "STEP leave1"; try dsimp only)) | fail "no step")); (try k_sweep); ((try (with_reducible rename Fr _ _ _ _ => F)); (try (with_reducible rename News _ _ _ _ => N))))
  k_fold
  refine anyE (lc_asg (hclos := closureFor_none (by decide)) ?_ rfl (by decide) rfl (by decide) rfl rfl)
  ((repeat' (first | (k_unfold; (try dsimp only)) | (k_end; fail) | ((fail_if_success (with_reducible first | intro _ | refine st_and ?_ | refine st_ex ?_ | refine st_ex1 ?_ | refine st_eq ?_ | refine st_cr ?_ | refine st_td ?_ | refine st_tl ?_ | refine st_tt ?_ | refine st_tz ?_ | refine st_bs ?_ | refine st_ba ?_ | refine st_bp ?_ | refine st_bu ?_ | refine st_bg ?_ | refine st_sn ?_ | refine st_fo ?_ | refine st_al ?_ | refine st_ad ?_ | refine st_el ?_ | refine st_ed ?_ | refine st_cNq ?_ | refine st_cIn ?_ | refine st_cNn ?_)); first | walk1 | (dsimp only; (fail_if_success (with_reducible first | intro _ | refine st_and ?_ | refine st_ex ?_ | refine st_ex1 ?_ | refine st_eq ?_ | refine st_cr ?_ | refine st_td ?_ | refine st_tl ?_ | refine st_tt ?_ | refine st_tz ?_ | refine st_bs ?_ | refine st_ba ?_ | refine st_bp ?_ | refine st_bu ?_ | refine st_bg ?_ | refine st_sn ?_ | refine st_fo ?_ | refine st_al ?_ | refine st_ad ?_ | refine st_el ?_ | refine st_ed ?_ | refine st_cNq ?_ | refine st_cIn ?_ | refine st_cNn ?_)); walk1) | (leave1; walk_say "STEP leave1"; try dsimp only)) | fail "no step")); (try k_sweep); ((try (with_reducible rename Fr _ _ _ _ => F)); (try (with_reducible rename News _ _ _ _ => N))))
  refine keys_call (by rw [depth_deeper]; omega) (by rw [units_deeper]; omega) (G.keep F.keep) ?_
  intro h2 tk2 l items kp2 _ hpl hall
  refine keys_pack (items := items) hh hpl hall (F.ns.at' fun o e => kp2 _ o e) ?hl ?hk ?_
  case hl => intro C x hx; simp at hx; rcases hx with rfl | rfl <;> rfl
  case hk => rfl
  intro h3 tk3 ys D S hD hpl3 hall3 hns3 hk3
  have F3 := but_Fr F hns3 fun b o hb e => hk3 b o hb (kp2 b o e)
  clear F N
  have N := news0 F3
  ((repeat' (first | (k_unfold; (try dsimp only)) | (k_end; fail) | ((fail_if_success (with_reducible first | intro _ | refine st_and ?_ | refine st_ex ?_ | refine st_ex1 ?_ | refine st_eq ?_ | refine st_cr ?_ | refine st_td ?_ | refine st_tl ?_ | refine st_tt ?_ | refine st_tz ?_ | refine st_bs ?_ | refine st_ba ?_ | refine st_bp ?_ | refine st_bu ?_ | refine st_bg ?_ | refine st_sn ?_ | refine st_fo ?_ | refine st_al ?_ | refine st_ad ?_ | refine st_el ?_ | refine st_ed ?_ | refine st_cNq ?_ | refine st_cIn ?_ | refine st_cNn ?_)); first | walk1 | (dsimp only; (fail_if_success (with_reducible first | intro _ | refine st_and ?_ | refine st_ex ?_ | refine st_ex1 ?_ | refine st_eq ?_ | refine st_cr ?_ | refine st_td ?_ | refine st_tl ?_ | refine st_tt ?_ | refine st_tz ?_ | refine st_bs ?_ | refine st_ba ?_ | refine st_bp ?_ | refine st_bu ?_ | refine st_bg ?_ | refine st_sn ?_ | refine st_fo ?_ | refine st_al ?_ | refine st_ad ?_ | refine st_el ?_ | refine st_ed ?_ | refine st_cNq ?_ | refine st_cIn ?_ | refine st_cNn ?_)); walk1) | (leave1; walk_say "STEP leave1"; try dsimp only)) | fail "no step")); (try k_sweep); ((try (with_reducible rename Fr _ _ _ _ => F)); (try (with_reducible rename News _ _ _ _ => N))))
  k_fold
  refine anyE (lc_val (hclos := closureFor_none (by decide)) ?_ (by decide) rfl (by decide))
  ((repeat' (first | (k_unfold; (try dsimp only)) | (k_end; fail) | ((fail_if_success (with_reducible first | intro _ | refine st_and ?_ | refine st_ex ?_ | refine st_ex1 ?_ | refine st_eq ?_ | refine st_cr ?_ | refine st_td ?_ | refine st_tl ?_ | refine st_tt ?_ | refine st_tz ?_ | refine st_bs ?_ | refine st_ba ?_ | refine st_bp ?_ | refine st_bu ?_ | refine st_bg ?_ | refine st_sn ?_ | refine st_fo ?_ | refine st_al ?_ | refine st_ad ?_ | refine st_el ?_ | refine st_ed ?_ | refine st_cNq ?_ | refine st_cIn ?_ | refine st_cNn ?_)); first | walk1 | (dsimp only; (fail_if_success (with_reducible first | intro _ | refine st_and ?_ | refine st_ex ?_ | refine st_ex1 ?_ | refine st_eq ?_ | refine st_cr ?_ | refine st_td ?_ | refine st_tl ?_ | refine st_tt ?_ | refine st_tz ?_ | refine st_bs ?_ | refine st_ba ?_ | refine st_bp ?_ | refine st_bu ?_ | refine st_bg ?_ | refine st_sn ?_ | refine st_fo ?_ | refine st_al ?_ | refine st_ad ?_ | refine st_el ?_ | refine st_ed ?_ | refine st_cNq ?_ | refine st_cIn ?_ | refine st_cNn ?_)); walk1) | (leave1; walk_say "STEP leave1"; try dsimp only)) | fail "no step")); (try k_sweep); ((try (with_reducible rename Fr _ _ _ _ => F)); (try (with_reducible rename News _ _ _ _ => N))))
  have kp3 : Kp s.heap h3 := F.keep
  obtain ⟨_, rs, hrl, hra⟩ := hr
  refine zip2_pack (n := 5) hh (hpl3.isList) (hrl.at fun o e => kp3 _ o e).isList (by rw [hall3.length]; rfl) (by rw [hra.length]; rfl) ?_
  intro x h4 tk4 kp4 hit
  refine ⟨5, BT ["key", "one"] (fun i ws => ∃ x y, ys[i]? = some x ∧ rs[i]? = some y ∧ ws = [x, y]), Dat, fun i => (row i).map (attrT i), fun S h v d => Rd S h v d, h3, ?_, by size_fits, fun S h h' v x hk' r => r.mono fun b o hb e => ⟨hb, hk' b o hb e⟩, ?_, ?_, ?_⟩
  · refine hit (.cons (.cons .nil)) rfl ?_ ?_
    · intro C x hx; simp at hx; rcases hx with rfl | rfl <;> rfl
    · intro C; rfl
  · rintro i s' m₀ mm C hi ⟨ws, ⟨x, y, hx, hy, rfl⟩, _, rfl⟩ hns hkp
    have hy' := all2_range hra hy
    refine wpAny_tests_one ?_
    have nsM : NsM := ⟨⟩
    (try dsimp only)
    cases hc : row i with
    | none =>
      rw [hc] at hy'
      rw [hy'.none_inv] at hns
      ((repeat' (first | (k_unfold; (try dsimp only)) | (k_end; fail) | ((fail_if_success (with_reducible first | intro _ | refine st_and ?_ | refine st_ex ?_ | refine st_ex1 ?_ | refine st_eq ?_ | refine st_cr ?_ | refine st_td ?_ | refine st_tl ?_ | refine st_tt ?_ | refine st_tz ?_ | refine st_bs ?_ | refine st_ba ?_ | refine st_bp ?_ | refine st_bu ?_ | refine st_bg ?_ | refine st_sn ?_ | refine st_fo ?_ | refine st_al ?_ | refine st_ad ?_ | refine st_el ?_ | refine st_ed ?_ | refine st_cNq ?_ | refine st_cIn ?_ | refine st_cNn ?_)); first | walk1 | (dsimp only; (fail_if_success (with_reducible first | intro _ | refine st_and ?_ | refine st_ex ?_ | refine st_ex1 ?_ | refine st_eq ?_ | refine st_cr ?_ | refine st_td ?_ | refine st_tl ?_ | refine st_tt ?_ | refine st_tz ?_ | refine st_bs ?_ | refine st_ba ?_ | refine st_bp ?_ | refine st_bu ?_ | refine st_bg ?_ | refine st_sn ?_ | refine st_fo ?_ | refine st_al ?_ | refine st_ad ?_ | refine st_el ?_ | refine st_ed ?_ | refine st_cNq ?_ | refine st_cIn ?_ | refine st_cNn ?_)); walk1) | (leave1; walk_say "STEP leave1"; try dsimp only)) | fail "no step")); (try k_sweep); ((try (with_reducible rename Fr _ _ _ _ => F)); (try (with_reducible rename News _ _ _ _ => N))))
      exact ⟨⟨s'.heap, s'.toks, rfl, fun _ _ e => e⟩, rfl⟩
    | some c =>
      rw [hc] at hy'
      obtain ⟨a, vs, e, _⟩ := hy'.tup_inv
      rw [e] at hns
      ((repeat' (first | (k_unfold; (try dsimp only)) | (k_end; fail) | ((fail_if_success (with_reducible first | intro _ | refine st_and ?_ | refine st_ex ?_ | refine st_ex1 ?_ | refine st_eq ?_ | refine st_cr ?_ | refine st_td ?_ | refine st_tl ?_ | refine st_tt ?_ | refine st_tz ?_ | refine st_bs ?_ | refine st_ba ?_ | refine st_bp ?_ | refine st_bu ?_ | refine st_bg ?_ | refine st_sn ?_ | refine st_fo ?_ | refine st_al ?_ | refine st_ad ?_ | refine st_el ?_ | refine st_ed ?_ | refine st_cNq ?_ | refine st_cIn ?_ | refine st_cNn ?_)); first | walk1 | (dsimp only; (fail_if_success (with_reducible first | intro _ | refine st_and ?_ | refine st_ex ?_ | refine st_ex1 ?_ | refine st_eq ?_ | refine st_cr ?_ | refine st_td ?_ | refine st_tl ?_ | refine st_tt ?_ | refine st_tz ?_ | refine st_bs ?_ | refine st_ba ?_ | refine st_bp ?_ | refine st_bu ?_ | refine st_bg ?_ | refine st_sn ?_ | refine st_fo ?_ | refine st_al ?_ | refine st_ad ?_ | refine st_el ?_ | refine st_ed ?_ | refine st_cNq ?_ | refine st_cIn ?_ | refine st_cNn ?_)); walk1) | (leave1; walk_say "STEP leave1"; try dsimp only)) | fail "no step")); (try k_sweep); ((try (with_reducible rename Fr _ _ _ _ => F)); (try (with_reducible rename News _ _ _ _ => N))))
      exact ⟨⟨s'.heap, s'.toks, rfl, fun _ _ e => e⟩, rfl⟩
  · rintro i d s' m₀ mm C S hi hdd ⟨ws, ⟨x, y, hx, hy, rfl⟩, _, rfl⟩ hns hkp hC hS
    have hx' := all2_range hall3 hx
    have hy' := all2_range hra hy
    have nsM : NsM := ⟨⟩
    cases hc : row i with
    | none => simp only [hc] at hdd; cases hdd
    | some c =>
      simp only [hc] at hdd; cases hdd
      rw [hc] at hy'
      obtain ⟨a, vs, rfl, _, ht, hrs⟩ := hy'.tup_inv
      obtain ⟨v1, vs, rfl, r1, hrs⟩ := hrs.cons_inv
      obtain ⟨v2, vs, rfl, r2, hrs⟩ := hrs.cons_inv
      obtain rfl := hrs.nil_inv
      have ht' : IsTup s'.heap a [v1, v2].toArray := ht.keeps fun b o e => hkp b o (kp3 b o e)
      (try dsimp only)
      ((repeat' (first | (k_unfold; (try dsimp only)) | (k_end; fail) | ((fail_if_success (with_reducible first | intro _ | refine st_and ?_ | refine st_ex ?_ | refine st_ex1 ?_ | refine st_eq ?_ | refine st_cr ?_ | refine st_td ?_ | refine st_tl ?_ | refine st_tt ?_ | refine st_tz ?_ | refine st_bs ?_ | refine st_ba ?_ | refine st_bp ?_ | refine st_bu ?_ | refine st_bg ?_ | refine st_sn ?_ | refine st_fo ?_ | refine st_al ?_ | refine st_ad ?_ | refine st_el ?_ | refine st_ed ?_ | refine st_cNq ?_ | refine st_cIn ?_ | refine st_cNn ?_)); first | walk1 | (dsimp only; (fail_if_success (with_reducible first | intro _ | refine st_and ?_ | refine st_ex ?_ | refine st_ex1 ?_ | refine st_eq ?_ | refine st_cr ?_ | refine st_td ?_ | refine st_tl ?_ | refine st_tt ?_ | refine st_tz ?_ | refine st_bs ?_ | refine st_ba ?_ | refine st_bp ?_ | refine st_bu ?_ | refine st_bg ?_ | refine st_sn ?_ | refine st_fo ?_ | refine st_al ?_ | refine st_ad ?_ | refine st_el ?_ | refine st_ed ?_ | refine st_cNq ?_ | refine st_cIn ?_ | refine st_cNn ?_)); walk1) | (leave1; walk_say "STEP leave1"; try dsimp only)) | fail "no step")); (try k_sweep); ((try (with_reducible rename Fr _ _ _ _ => F)); (try (with_reducible rename News _ _ _ _ => N))))
      exact elt_tup hns hC (.cons (hx'.mono fun b o _ e => ⟨hS b o (fun q => q) e, hkp b o e⟩) (.cons (r1.mono fun b o _ e => ⟨hS b o (fun q => q) (kp3 b o e), hkp b o (kp3 b o e)⟩)
        (.cons (r2.mono fun b o _ e => ⟨hS b o (fun q => q) (kp3 b o e), hkp b o (kp3 b o e)⟩) .nil)))
  · intro h5 tk5 ys5 D5 S5 hD5 hpl5 hall5 hkp5
    have F := F.keeps hkp5
    have N := news0 F
    ((repeat' (first | (k_unfold; (try dsimp only)) | (k_end; fail) | ((fail_if_success (with_reducible first | intro _ | refine st_and ?_ | refine st_ex ?_ | refine st_ex1 ?_ | refine st_eq ?_ | refine st_cr ?_ | refine st_td ?_ | refine st_tl ?_ | refine st_tt ?_ | refine st_tz ?_ | refine st_bs ?_ | refine st_ba ?_ | refine st_bp ?_ | refine st_bu ?_ | refine st_bg ?_ | refine st_sn ?_ | refine st_fo ?_ | refine st_al ?_ | refine st_ad ?_ | refine st_el ?_ | refine st_ed ?_ | refine st_cNq ?_ | refine st_cIn ?_ | refine st_cNn ?_)); first | walk1 | (dsimp only; (fail_if_success (with_reducible first | intro _ | refine st_and ?_ | refine st_ex ?_ | refine st_ex1 ?_ | refine st_eq ?_ | refine st_cr ?_ | refine st_td ?_ | refine st_tl ?_ | refine st_tt ?_ | refine st_tz ?_ | refine st_bs ?_ | refine st_ba ?_ | refine st_bp ?_ | refine st_bu ?_ | refine st_bg ?_ | refine st_sn ?_ | refine st_fo ?_ | refine st_al ?_ | refine st_ad ?_ | refine st_el ?_ | refine st_ed ?_ | refine st_cNq ?_ | refine st_cIn ?_ | refine st_cNn ?_)); walk1) | (leave1; walk_say "STEP leave1"; try dsimp only)) | fail "no step")); (try k_sweep); ((try (with_reducible rename Fr _ _ _ _ => F)); (try (with_reducible rename News _ _ _ _ => N))))
    refine call_tuple_list hpl5.isList (fun h6 hk6 => ?_) (by have h1 := hall5.length; have h2 := List.length_filterMap_le (fun i => Option.map (attrT i) (row i)) (List.range 5); simp at h1 h2 ⊢; size_fits)
    have F := F.keeps hk6
    obtain ⟨nl, N0, back⟩ := all_news F
    have N := N0.push F { cls := .type "tuple", data := .seq ys5.toArray }
    have hns6 := F.ns
    have F := F.push { cls := .type "tuple", data := .seq ys5.toArray }
    have hrows : RdAll S5 h6 ys5 (attrs row) := (RdAll.of_all2 (f := id) (fun _ _ r => r) (hall5.mono fun v d r => r.keep hk6) |> fun r => by rwa [List.map_id] at r)
    ((repeat' (first | (k_unfold; (try dsimp only)) | (k_end; fail) | ((fail_if_success (with_reducible first | intro _ | refine st_and ?_ | refine st_ex ?_ | refine st_ex1 ?_ | refine st_eq ?_ | refine st_cr ?_ | refine st_td ?_ | refine st_tl ?_ | refine st_tt ?_ | refine st_tz ?_ | refine st_bs ?_ | refine st_ba ?_ | refine st_bp ?_ | refine st_bu ?_ | refine st_bg ?_ | refine st_sn ?_ | refine st_fo ?_ | refine st_al ?_ | refine st_ad ?_ | refine st_el ?_ | refine st_ed ?_ | refine st_cNq ?_ | refine st_cIn ?_ | refine st_cNn ?_)); first | walk1 | (dsimp only; (fail_if_success (with_reducible first | intro _ | refine st_and ?_ | refine st_ex ?_ | refine st_ex1 ?_ | refine st_eq ?_ | refine st_cr ?_ | refine st_td ?_ | refine st_tl ?_ | refine st_tt ?_ | refine st_tz ?_ | refine st_bs ?_ | refine st_ba ?_ | refine st_bp ?_ | refine st_bu ?_ | refine st_bg ?_ | refine st_sn ?_ | refine st_fo ?_ | refine st_al ?_ | refine st_ad ?_ | refine st_el ?_ | refine st_ed ?_ | refine st_cNq ?_ | refine st_cIn ?_ | refine st_cNn ?_)); walk1) | (leave1; walk_say "STEP leave1"; try dsimp only)) | fail "no step")); (try k_sweep); ((try (with_reducible rename Fr _ _ _ _ => F)); (try (with_reducible rename News _ _ _ _ => N))))
    all_goals (try k_sweep)
    all_goals ((try (with_reducible rename Fr _ _ _ _ => F)); (try (with_reducible rename News _ _ _ _ => N)))
    all_goals
      have hrows' := (hrows.past hns6 (back F N (fun p hp => by repeat (first | exact hp | refine List.Mem.tail _ ?_)))).top
      refine h _ _ _ F.keep (Rd.of_tup trivial (tupN N (by (repeat (first | exact List.Mem.head _ | refine List.Mem.tail _ ?_)))) (.cons (.str _ _) (.cons ?_ (.cons (.str _ _) (.cons (Rd.of_tup trivial (tupN N (by (repeat (first | exact List.Mem.head _ | refine List.Mem.tail _ ?_)))) hrows') (.cons (Rd.of_tup trivial (tupN N (by (repeat (first | exact List.Mem.head _ | refine List.Mem.tail _ ?_)))) .nil) .nil))))))
    · have hk : (kd == ("element" : Str)) = true := by assumption
      rw [nameD5, if_pos (by simpa using hk)]
      exact Rd.of_tup trivial (tupN N (by (repeat (first | exact List.Mem.head _ | refine List.Mem.tail _ ?_)))) (.cons (.str _ _) (.cons (.str _ _) (.cons (.str _ _) .nil)))
    · have hk : (kd == ("element" : Str)) = false := by assumption
      rw [nameD5, if_neg (by simpa using hk)]
      exact .str _ _
end
theorem range_get {α β : Type} (f : α → β) : ∀ (xs : List α), (List.range xs.length).filterMap (fun j => (xs[j]?).map f) = xs.map f
  | [] => rfl
  | a :: xs => by
    have ih := range_get f xs
    rw [List.length_cons, List.range_succ_eq_map, List.filterMap_cons]
    simp only [List.getElem?_cons_zero, Option.map_some, List.map_cons, List.filterMap_map]
    exact congrArg _ (by simpa [Function.comp_def] using ih)
theorem cellT_inj {a b : Option (Str × Str)} (h : cellT a = cellT b) : a = b := by
  cases a with
  | none => cases b with
    | none => rfl
    | some b => cases h
  | some a => cases b with
    | none => cases h
    | some b =>
      obtain ⟨a1, a2⟩ := a; obtain ⟨b1, b2⟩ := b
      simp only [cellT, Dat.tuple.injEq, List.cons.injEq, Dat.str.injEq, and_true] at h
      rw [h.1, h.2]
theorem cellT_eq (a b : Option (Str × Str)) : eqB (cellT a) (cellT b) = eqB a b := by
  by_cases h : a = b
  · rw [h, eqB_self, eqB_self]
  · rw [eqB_false.mpr h, eqB_false.mpr fun q => h (cellT_inj q)]
theorem cellT_ok {r : Row} (hr : RowOk r) (i : Nat) : kqdOk 8 (cellT (r i)) = true := by
  cases h : r i with
  | none => rfl
  | some a => have := hr i a h; obtain ⟨a, b⟩ := a; simpa [cellT, kqdOk] using this
noncomputable def diffs (r1 r2 : Row) : List Nat := (List.range 5).filterMap fun i => if eqB (r1 i) (r2 i) = true then none else some i
def dueT (i : Nat) : Option (Str × Str) → Dat
  | none => .tuple [keyT i, .none, .none]
  | some c => .tuple [keyT i, .str c.1, .str c.2]
noncomputable def dueD (r1 r2 : Row) : List Dat := (diffs r1 r2).map fun i => dueT i (r2 i)

section
variable {w : World} {mg mb : Str → Option Value} {A : Around} {s : Shared} {Q : Value → Shared → Prop}
set_option maxHeartbeats 4000000 in
theorem due_call (hh : A.handled = none) (hdp : A.depth + 8 < recursionLimit) (hu : A.units + 200 < cLine) (G : G0 w mg mb s.heap) {a b : Addr} {r1 r2 : Row} (hr1 : RowL s.heap a r1) (hr2 : RowL s.heap b r2)
    (h : ∀ h' tk D ys, Kp s.heap h' → s.heap.get? D = none → h'.PlainList D ys.toArray → RdAll (fun _ => True) h' ys (dueD r1 r2) → Q (.ref D) { s with heap := h', toks := tk }) :
    wpAny (model PySem.Challenge.rw_xm0645_01.row.prog w) A (call (.ref 71) [.ref a, .ref b]) Q F0 s := by
  (refine wpAny_call ?_; refine call_pos_ret (by omega) ((G).K 71 _ rfl) rfl (G).T.nolimit (codeRec_of (G).K rfl) rfl (locs rfl) ?_; intro h₁ F; have X := (G).K; have T := (G).T; have N := news0 F)
  ((repeat' (first | (k_unfold; (try dsimp only)) | (k_end; fail) | ((fail_if_success (with_reducible first | intro _ | refine st_and ?_ | refine st_ex ?_ | refine st_ex1 ?_ | refine st_eq ?_ | refine st_cr ?_ | refine st_td ?_ | refine st_tl ?_ | refine st_tt ?_ | refine st_tz ?_ | refine st_bs ?_ | refine st_ba ?_ | refine st_bp ?_ | refine st_bu ?_ | refine st_bg ?_ | refine st_sn ?_ | refine st_fo ?_ | refine st_al ?_ | refine st_ad ?_ | refine st_el ?_ | refine st_ed ?_ | refine st_cNq ?_ | refine st_cIn ?_ | refine st_cNn ?_)); first | walk1 | (dsimp only; (fail_if_success (with_reducible first | intro _ | refine st_and ?_ | refine st_ex ?_ | refine st_ex1 ?_ | refine st_eq ?_ | refine st_cr ?_ | refine st_td ?_ | refine st_tl ?_ | refine st_tt ?_ | refine st_tz ?_ | refine st_bs ?_ | refine st_ba ?_ | refine st_bp ?_ | refine st_bu ?_ | refine st_bg ?_ | refine st_sn ?_ | refine st_fo ?_ | refine st_al ?_ | refine st_ad ?_ | refine st_el ?_ | refine st_ed ?_ | refine st_cNq ?_ | refine st_cIn ?_ | refine st_cNn ?_)); walk1) | (leave1; walk_say "STEP leave1"; try dsimp only)) | fail "no step")); (try k_sweep); ((try (with_reducible rename Fr _ _ _ _ => F)); (try (with_reducible rename News _ _ _ _ => N))))
  k_fold
  refine anyE (lc_asg (hclos := closureFor_none (by decide)) ?_ rfl (by decide) rfl (by decide) rfl rfl)
  ((repeat' (first | (k_unfold; (try dsimp only)) | (k_end; fail) | ((fail_if_success (with_reducible first | intro _ | refine st_and ?_ | refine st_ex ?_ | refine st_ex1 ?_ | refine st_eq ?_ | refine st_cr ?_ | refine st_td ?_ | refine st_tl ?_ | refine st_tt ?_ | refine st_tz ?_ | refine st_bs ?_ | refine st_ba ?_ | refine st_bp ?_ | refine st_bu ?_ | refine st_bg ?_ | refine st_sn ?_ | refine st_fo ?_ | refine st_al ?_ | refine st_ad ?_ | refine st_el ?_ | refine st_ed ?_ | refine st_cNq ?_ | refine st_cIn ?_ | refine st_cNn ?_)); first | walk1 | (dsimp only; (fail_if_success (with_reducible first | intro _ | refine st_and ?_ | refine st_ex ?_ | refine st_ex1 ?_ | refine st_eq ?_ | refine st_cr ?_ | refine st_td ?_ | refine st_tl ?_ | refine st_tt ?_ | refine st_tz ?_ | refine st_bs ?_ | refine st_ba ?_ | refine st_bp ?_ | refine st_bu ?_ | refine st_bg ?_ | refine st_sn ?_ | refine st_fo ?_ | refine st_al ?_ | refine st_ad ?_ | refine st_el ?_ | refine st_ed ?_ | refine st_cNq ?_ | refine st_cIn ?_ | refine st_cNn ?_)); walk1) | (leave1; walk_say "STEP leave1"; try dsimp only)) | fail "no step")); (try k_sweep); ((try (with_reducible rename Fr _ _ _ _ => F)); (try (with_reducible rename News _ _ _ _ => N))))
  refine keys_call (by rw [depth_deeper]; omega) (by rw [units_deeper]; omega) (G.keep F.keep) ?_
  intro h2 tk2 l items kp2 _ hpl hall
  refine keys_pack (items := items) hh hpl hall (F.ns.at' fun o e => kp2 _ o e) ?hl ?hk ?_
  case hl => intro C x hx; simp at hx; rcases hx with rfl | rfl <;> rfl
  case hk => rfl
  intro h3 tk3 ys D S hD hpl3 hall3 hns3 hk3
  have F3 := but_Fr F hns3 fun b o hb e => hk3 b o hb (kp2 b o e)
  clear F N
  have N := news0 F3
  ((repeat' (first | (k_unfold; (try dsimp only)) | (k_end; fail) | ((fail_if_success (with_reducible first | intro _ | refine st_and ?_ | refine st_ex ?_ | refine st_ex1 ?_ | refine st_eq ?_ | refine st_cr ?_ | refine st_td ?_ | refine st_tl ?_ | refine st_tt ?_ | refine st_tz ?_ | refine st_bs ?_ | refine st_ba ?_ | refine st_bp ?_ | refine st_bu ?_ | refine st_bg ?_ | refine st_sn ?_ | refine st_fo ?_ | refine st_al ?_ | refine st_ad ?_ | refine st_el ?_ | refine st_ed ?_ | refine st_cNq ?_ | refine st_cIn ?_ | refine st_cNn ?_)); first | walk1 | (dsimp only; (fail_if_success (with_reducible first | intro _ | refine st_and ?_ | refine st_ex ?_ | refine st_ex1 ?_ | refine st_eq ?_ | refine st_cr ?_ | refine st_td ?_ | refine st_tl ?_ | refine st_tt ?_ | refine st_tz ?_ | refine st_bs ?_ | refine st_ba ?_ | refine st_bp ?_ | refine st_bu ?_ | refine st_bg ?_ | refine st_sn ?_ | refine st_fo ?_ | refine st_al ?_ | refine st_ad ?_ | refine st_el ?_ | refine st_ed ?_ | refine st_cNq ?_ | refine st_cIn ?_ | refine st_cNn ?_)); walk1) | (leave1; walk_say "STEP leave1"; try dsimp only)) | fail "no step")); (try k_sweep); ((try (with_reducible rename Fr _ _ _ _ => F)); (try (with_reducible rename News _ _ _ _ => N))))
  k_fold
  refine anyE (lc_asg (hclos := closureFor_none (by decide)) ?_ rfl (by decide) rfl (by decide) rfl rfl)
  ((repeat' (first | (k_unfold; (try dsimp only)) | (k_end; fail) | ((fail_if_success (with_reducible first | intro _ | refine st_and ?_ | refine st_ex ?_ | refine st_ex1 ?_ | refine st_eq ?_ | refine st_cr ?_ | refine st_td ?_ | refine st_tl ?_ | refine st_tt ?_ | refine st_tz ?_ | refine st_bs ?_ | refine st_ba ?_ | refine st_bp ?_ | refine st_bu ?_ | refine st_bg ?_ | refine st_sn ?_ | refine st_fo ?_ | refine st_al ?_ | refine st_ad ?_ | refine st_el ?_ | refine st_ed ?_ | refine st_cNq ?_ | refine st_cIn ?_ | refine st_cNn ?_)); first | walk1 | (dsimp only; (fail_if_success (with_reducible first | intro _ | refine st_and ?_ | refine st_ex ?_ | refine st_ex1 ?_ | refine st_eq ?_ | refine st_cr ?_ | refine st_td ?_ | refine st_tl ?_ | refine st_tt ?_ | refine st_tz ?_ | refine st_bs ?_ | refine st_ba ?_ | refine st_bp ?_ | refine st_bu ?_ | refine st_bg ?_ | refine st_sn ?_ | refine st_fo ?_ | refine st_al ?_ | refine st_ad ?_ | refine st_el ?_ | refine st_ed ?_ | refine st_cNq ?_ | refine st_cIn ?_ | refine st_cNn ?_)); walk1) | (leave1; walk_say "STEP leave1"; try dsimp only)) | fail "no step")); (try k_sweep); ((try (with_reducible rename Fr _ _ _ _ => F)); (try (with_reducible rename News _ _ _ _ => N))))
  have kp3 : Kp s.heap h3 := F.keep
  obtain ⟨ok1, as, hal, haa⟩ := hr1
  obtain ⟨ok2, bs, hbl, hba⟩ := hr2
  refine zip3_pack (n := 5) hh hpl3.isList (hal.at fun o e => kp3 _ o e).isList (hbl.at fun o e => kp3 _ o e).isList (by rw [hall3.length]; rfl) (by rw [haa.length]; rfl) (by rw [hba.length]; rfl) ?_
  intro x h4 tk4 kp4 hit
  refine ⟨5, BT ["key", "one", "two"] (fun i ws => ∃ x y v, ys[i]? = some x ∧ as[i]? = some y ∧ bs[i]? = some v ∧ ws = [x, y, v]), Nat, fun i => if eqB (r1 i) (r2 i) = true then none else some i,
    fun S h v i => Rd S h v (.tuple [keyT i, cellT (r2 i)]), _, h3, F.ns, ?_, by size_fits, fun S h h' v x hk' r => r.mono fun b o hb e => ⟨hb, hk' b o hb e⟩, ?_, ?_, ?_⟩
  · refine hit (.cons (.cons (.cons .nil))) rfl ?_ ?_
    · intro C x hx; simp at hx; rcases hx with rfl | rfl | rfl <;> rfl
    · intro C; rfl
  · rintro i s' m₀ mm C hi ⟨ws, ⟨x, y, v, hx, hy, hv, rfl⟩, _, rfl⟩ hns hkp
    have hy' := all2_range haa hy
    have hv' := all2_range hba hv
    have kS : Kp s.heap s'.heap := fun b o e => hkp b o (kp3 b o e)
    refine wpAny_tests_one ?_
    have nsM : NsM := ⟨⟩
    (try dsimp only)
    ((repeat' (first | (k_unfold; (try dsimp only)) | (k_end; fail) | ((fail_if_success (with_reducible first | intro _ | refine st_and ?_ | refine st_ex ?_ | refine st_ex1 ?_ | refine st_eq ?_ | refine st_cr ?_ | refine st_td ?_ | refine st_tl ?_ | refine st_tt ?_ | refine st_tz ?_ | refine st_bs ?_ | refine st_ba ?_ | refine st_bp ?_ | refine st_bu ?_ | refine st_bg ?_ | refine st_sn ?_ | refine st_fo ?_ | refine st_al ?_ | refine st_ad ?_ | refine st_el ?_ | refine st_ed ?_ | refine st_cNq ?_ | refine st_cIn ?_ | refine st_cNn ?_)); first | walk1 | (dsimp only; (fail_if_success (with_reducible first | intro _ | refine st_and ?_ | refine st_ex ?_ | refine st_ex1 ?_ | refine st_eq ?_ | refine st_cr ?_ | refine st_td ?_ | refine st_tl ?_ | refine st_tt ?_ | refine st_tz ?_ | refine st_bs ?_ | refine st_ba ?_ | refine st_bp ?_ | refine st_bu ?_ | refine st_bg ?_ | refine st_sn ?_ | refine st_fo ?_ | refine st_al ?_ | refine st_ad ?_ | refine st_el ?_ | refine st_ed ?_ | refine st_cNq ?_ | refine st_cIn ?_ | refine st_cNn ?_)); walk1) | (leave1; walk_say "STEP leave1"; try dsimp only)) | fail "no step")); (try k_sweep); ((try (with_reducible rename Fr _ _ _ _ => F)); (try (with_reducible rename News _ _ _ _ => N))))
    refine ne_rd (hy'.keep kS) (hv'.keep kS) (cellT_ok ok1 i) (cellT_ok ok2 i) (by rw [units_deeper]; omega) ?_
    rw [cellT_eq]
    ((repeat' (first | (k_unfold; (try dsimp only)) | (k_end; fail) | ((fail_if_success (with_reducible first | intro _ | refine st_and ?_ | refine st_ex ?_ | refine st_ex1 ?_ | refine st_eq ?_ | refine st_cr ?_ | refine st_td ?_ | refine st_tl ?_ | refine st_tt ?_ | refine st_tz ?_ | refine st_bs ?_ | refine st_ba ?_ | refine st_bp ?_ | refine st_bu ?_ | refine st_bg ?_ | refine st_sn ?_ | refine st_fo ?_ | refine st_al ?_ | refine st_ad ?_ | refine st_el ?_ | refine st_ed ?_ | refine st_cNq ?_ | refine st_cIn ?_ | refine st_cNn ?_)); first | walk1 | (dsimp only; (fail_if_success (with_reducible first | intro _ | refine st_and ?_ | refine st_ex ?_ | refine st_ex1 ?_ | refine st_eq ?_ | refine st_cr ?_ | refine st_td ?_ | refine st_tl ?_ | refine st_tt ?_ | refine st_tz ?_ | refine st_bs ?_ | refine st_ba ?_ | refine st_bp ?_ | refine st_bu ?_ | refine st_bg ?_ | refine st_sn ?_ | refine st_fo ?_ | refine st_al ?_ | refine st_ad ?_ | refine st_el ?_ | refine st_ed ?_ | refine st_cNq ?_ | refine st_cIn ?_ | refine st_cNn ?_)); walk1) | (leave1; walk_say "STEP leave1"; try dsimp only)) | fail "no step")); (try k_sweep); ((try (with_reducible rename Fr _ _ _ _ => F)); (try (with_reducible rename News _ _ _ _ => N))))
    refine ⟨⟨_, _, rfl, fun _ _ e => e⟩, ?_⟩
    cases eqB (r1 i) (r2 i) <;> rfl
  · rintro i d s' m₀ mm C S' hi hdd ⟨ws, ⟨x, y, v, hx, hy, hv, rfl⟩, _, rfl⟩ hns hkp hC hS
    have hx' := all2_range hall3 hx
    have hv' := all2_range hba hv
    have hid : d = i := by
      by_cases hc : eqB (r1 i) (r2 i) = true
      · simp only [hc, if_true] at hdd; cases hdd
      · simp only [hc, if_false] at hdd; cases hdd; rfl
    subst hid
    have nsM : NsM := ⟨⟩
    (try dsimp only)
    ((repeat' (first | (k_unfold; (try dsimp only)) | (k_end; fail) | ((fail_if_success (with_reducible first | intro _ | refine st_and ?_ | refine st_ex ?_ | refine st_ex1 ?_ | refine st_eq ?_ | refine st_cr ?_ | refine st_td ?_ | refine st_tl ?_ | refine st_tt ?_ | refine st_tz ?_ | refine st_bs ?_ | refine st_ba ?_ | refine st_bp ?_ | refine st_bu ?_ | refine st_bg ?_ | refine st_sn ?_ | refine st_fo ?_ | refine st_al ?_ | refine st_ad ?_ | refine st_el ?_ | refine st_ed ?_ | refine st_cNq ?_ | refine st_cIn ?_ | refine st_cNn ?_)); first | walk1 | (dsimp only; (fail_if_success (with_reducible first | intro _ | refine st_and ?_ | refine st_ex ?_ | refine st_ex1 ?_ | refine st_eq ?_ | refine st_cr ?_ | refine st_td ?_ | refine st_tl ?_ | refine st_tt ?_ | refine st_tz ?_ | refine st_bs ?_ | refine st_ba ?_ | refine st_bp ?_ | refine st_bu ?_ | refine st_bg ?_ | refine st_sn ?_ | refine st_fo ?_ | refine st_al ?_ | refine st_ad ?_ | refine st_el ?_ | refine st_ed ?_ | refine st_cNq ?_ | refine st_cIn ?_ | refine st_cNn ?_)); walk1) | (leave1; walk_say "STEP leave1"; try dsimp only)) | fail "no step")); (try k_sweep); ((try (with_reducible rename Fr _ _ _ _ => F)); (try (with_reducible rename News _ _ _ _ => N))))
    exact elt_tup hns hC (.cons ((hx'.offL F.ns hS).keep hkp) (.cons (((hv'.keep kp3).offL F.ns hS).keep hkp) .nil))
  · intro h5 tk5 ys5 D5 S5 hD5 hpl5 hall5 hns5 hk5
    have F := but_Fr F hns5 hk5
    have N := news0 F
    ((repeat' (first | (k_unfold; (try dsimp only)) | (k_end; fail) | ((fail_if_success (with_reducible first | intro _ | refine st_and ?_ | refine st_ex ?_ | refine st_ex1 ?_ | refine st_eq ?_ | refine st_cr ?_ | refine st_td ?_ | refine st_tl ?_ | refine st_tt ?_ | refine st_tz ?_ | refine st_bs ?_ | refine st_ba ?_ | refine st_bp ?_ | refine st_bu ?_ | refine st_bg ?_ | refine st_sn ?_ | refine st_fo ?_ | refine st_al ?_ | refine st_ad ?_ | refine st_el ?_ | refine st_ed ?_ | refine st_cNq ?_ | refine st_cIn ?_ | refine st_cNn ?_)); first | walk1 | (dsimp only; (fail_if_success (with_reducible first | intro _ | refine st_and ?_ | refine st_ex ?_ | refine st_ex1 ?_ | refine st_eq ?_ | refine st_cr ?_ | refine st_td ?_ | refine st_tl ?_ | refine st_tt ?_ | refine st_tz ?_ | refine st_bs ?_ | refine st_ba ?_ | refine st_bp ?_ | refine st_bu ?_ | refine st_bg ?_ | refine st_sn ?_ | refine st_fo ?_ | refine st_al ?_ | refine st_ad ?_ | refine st_el ?_ | refine st_ed ?_ | refine st_cNq ?_ | refine st_cIn ?_ | refine st_cNn ?_)); walk1) | (leave1; walk_say "STEP leave1"; try dsimp only)) | fail "no step")); (try k_sweep); ((try (with_reducible rename Fr _ _ _ _ => F)); (try (with_reducible rename News _ _ _ _ => N))))
    k_fold
    refine anyE (lc_val (hclos := closureFor_none (by decide)) ?_ (by decide) rfl (by decide))
    ((repeat' (first | (k_unfold; (try dsimp only)) | (k_end; fail) | ((fail_if_success (with_reducible first | intro _ | refine st_and ?_ | refine st_ex ?_ | refine st_ex1 ?_ | refine st_eq ?_ | refine st_cr ?_ | refine st_td ?_ | refine st_tl ?_ | refine st_tt ?_ | refine st_tz ?_ | refine st_bs ?_ | refine st_ba ?_ | refine st_bp ?_ | refine st_bu ?_ | refine st_bg ?_ | refine st_sn ?_ | refine st_fo ?_ | refine st_al ?_ | refine st_ad ?_ | refine st_el ?_ | refine st_ed ?_ | refine st_cNq ?_ | refine st_cIn ?_ | refine st_cNn ?_)); first | walk1 | (dsimp only; (fail_if_success (with_reducible first | intro _ | refine st_and ?_ | refine st_ex ?_ | refine st_ex1 ?_ | refine st_eq ?_ | refine st_cr ?_ | refine st_td ?_ | refine st_tl ?_ | refine st_tt ?_ | refine st_tz ?_ | refine st_bs ?_ | refine st_ba ?_ | refine st_bp ?_ | refine st_bu ?_ | refine st_bg ?_ | refine st_sn ?_ | refine st_fo ?_ | refine st_al ?_ | refine st_ad ?_ | refine st_el ?_ | refine st_ed ?_ | refine st_cNq ?_ | refine st_cIn ?_ | refine st_cNn ?_)); walk1) | (leave1; walk_say "STEP leave1"; try dsimp only)) | fail "no step")); (try k_sweep); ((try (with_reducible rename Fr _ _ _ _ => F)); (try (with_reducible rename News _ _ _ _ => N))))
    refine ⟨ys5.length, BT ["key", "two"] (fun j ws => ∃ x v i, ws = [x, v] ∧ (diffs r1 r2)[j]? = some i ∧ RdT h5 x (keyT i) ∧ RdT h5 v (cellT (r2 i))), Dat, fun j => ((diffs r1 r2)[j]?).map fun i => dueT i (r2 i),
      fun S h v d => Rd S h v d, h5, ?_, by have h1 := hall5.length; have h2 := List.length_filterMap_le (fun i => if eqB (r1 i) (r2 i) = true then none else some i) (List.range 5); simp at h1 h2 ⊢; size_fits,
      fun S h h' v x hk' r => r.mono fun b o hb e => ⟨hb, hk' b o hb e⟩, ?_, ?_, ?_⟩
    · refine drawn_tup (xs := ["key", "two"]) hh (.inl hpl5.isList) (.cons (.cons .nil)) ?_ (fun _ q => q.elim) (fun q => q) ?_ ?_
      · intro j v hv
        obtain ⟨i, hi, hr⟩ := hall5.get2 hv
        obtain ⟨t, ws, rfl, _, ht, hw⟩ := hr.tup_inv
        obtain ⟨v1, ws, rfl, q1, hw⟩ := hw.cons_inv
        obtain ⟨v2, ws, rfl, q2, hw⟩ := hw.cons_inv
        obtain rfl := hw.nil_inv
        exact ⟨t, _, rfl, fun q => q, ht, rfl, v1, v2, i, rfl, hi, q1.top, q2.top⟩
      · intro C x hx; simp at hx; rcases hx with rfl | rfl <;> rfl
      · intro C; rfl
    · refine tests_nil fun j hj => ?_
      rw [List.getElem?_eq_getElem (h := by rw [diffs, ← hall5.length]; exact hj)]; rfl
    · rintro j d s' m₀ mm C S' hj hdd ⟨ws, ⟨x, v, i, rfl, hi, hx', hv'⟩, _, rfl⟩ hns hkp hC hS
      simp only [hi, Option.map_some, Option.some.injEq] at hdd
      subst hdd
      have nsM : NsM := ⟨⟩
      have rx : Rd S' s'.heap x (keyT i) := hx'.mono fun b o _ e => ⟨hS b o (fun q => q) e, hkp b o e⟩
      cases hc : r2 i with
      | none =>
        rw [hc] at hv'
        rw [hv'.none_inv] at hns
        (try dsimp only)
        ((repeat' (first | (k_unfold; (try dsimp only)) | (k_end; fail) | ((fail_if_success (with_reducible first | intro _ | refine st_and ?_ | refine st_ex ?_ | refine st_ex1 ?_ | refine st_eq ?_ | refine st_cr ?_ | refine st_td ?_ | refine st_tl ?_ | refine st_tt ?_ | refine st_tz ?_ | refine st_bs ?_ | refine st_ba ?_ | refine st_bp ?_ | refine st_bu ?_ | refine st_bg ?_ | refine st_sn ?_ | refine st_fo ?_ | refine st_al ?_ | refine st_ad ?_ | refine st_el ?_ | refine st_ed ?_ | refine st_cNq ?_ | refine st_cIn ?_ | refine st_cNn ?_)); first | walk1 | (dsimp only; (fail_if_success (with_reducible first | intro _ | refine st_and ?_ | refine st_ex ?_ | refine st_ex1 ?_ | refine st_eq ?_ | refine st_cr ?_ | refine st_td ?_ | refine st_tl ?_ | refine st_tt ?_ | refine st_tz ?_ | refine st_bs ?_ | refine st_ba ?_ | refine st_bp ?_ | refine st_bu ?_ | refine st_bg ?_ | refine st_sn ?_ | refine st_fo ?_ | refine st_al ?_ | refine st_ad ?_ | refine st_el ?_ | refine st_ed ?_ | refine st_cNq ?_ | refine st_cIn ?_ | refine st_cNn ?_)); walk1) | (leave1; walk_say "STEP leave1"; try dsimp only)) | fail "no step")); (try k_sweep); ((try (with_reducible rename Fr _ _ _ _ => F)); (try (with_reducible rename News _ _ _ _ => N))))
        exact elt_tup hns hC (.cons rx (.cons .none (.cons .none .nil)))
      | some c =>
        rw [hc] at hv'
        obtain ⟨t, vs, rfl, _, ht, hrs⟩ := hv'.tup_inv
        obtain ⟨v1, vs, rfl, q1, hrs⟩ := hrs.cons_inv
        obtain ⟨v2, vs, rfl, q2, hrs⟩ := hrs.cons_inv
        obtain rfl := hrs.nil_inv
        have ht' : IsTup s'.heap t [v1, v2].toArray := ht.keeps hkp
        (try dsimp only)
        ((repeat' (first | (k_unfold; (try dsimp only)) | (k_end; fail) | ((fail_if_success (with_reducible first | intro _ | refine st_and ?_ | refine st_ex ?_ | refine st_ex1 ?_ | refine st_eq ?_ | refine st_cr ?_ | refine st_td ?_ | refine st_tl ?_ | refine st_tt ?_ | refine st_tz ?_ | refine st_bs ?_ | refine st_ba ?_ | refine st_bp ?_ | refine st_bu ?_ | refine st_bg ?_ | refine st_sn ?_ | refine st_fo ?_ | refine st_al ?_ | refine st_ad ?_ | refine st_el ?_ | refine st_ed ?_ | refine st_cNq ?_ | refine st_cIn ?_ | refine st_cNn ?_)); first | walk1 | (dsimp only; (fail_if_success (with_reducible first | intro _ | refine st_and ?_ | refine st_ex ?_ | refine st_ex1 ?_ | refine st_eq ?_ | refine st_cr ?_ | refine st_td ?_ | refine st_tl ?_ | refine st_tt ?_ | refine st_tz ?_ | refine st_bs ?_ | refine st_ba ?_ | refine st_bp ?_ | refine st_bu ?_ | refine st_bg ?_ | refine st_sn ?_ | refine st_fo ?_ | refine st_al ?_ | refine st_ad ?_ | refine st_el ?_ | refine st_ed ?_ | refine st_cNq ?_ | refine st_cIn ?_ | refine st_cNn ?_)); walk1) | (leave1; walk_say "STEP leave1"; try dsimp only)) | fail "no step")); (try k_sweep); ((try (with_reducible rename Fr _ _ _ _ => F)); (try (with_reducible rename News _ _ _ _ => N))))
        exact elt_tup hns hC (.cons rx (.cons (q1.mono fun b o _ e => ⟨hS b o (fun q => q) e, hkp b o e⟩) (.cons (q2.mono fun b o _ e => ⟨hS b o (fun q => q) e, hkp b o e⟩) .nil)))
    · intro h6 tk6 ys6 D6 S6 hD6 hpl6 hall6 hkp6
      have F := F.keeps hkp6
      have N := news0 F
      ((repeat' (first | (k_unfold; (try dsimp only)) | (k_end; fail) | ((fail_if_success (with_reducible first | intro _ | refine st_and ?_ | refine st_ex ?_ | refine st_ex1 ?_ | refine st_eq ?_ | refine st_cr ?_ | refine st_td ?_ | refine st_tl ?_ | refine st_tt ?_ | refine st_tz ?_ | refine st_bs ?_ | refine st_ba ?_ | refine st_bp ?_ | refine st_bu ?_ | refine st_bg ?_ | refine st_sn ?_ | refine st_fo ?_ | refine st_al ?_ | refine st_ad ?_ | refine st_el ?_ | refine st_ed ?_ | refine st_cNq ?_ | refine st_cIn ?_ | refine st_cNn ?_)); first | walk1 | (dsimp only; (fail_if_success (with_reducible first | intro _ | refine st_and ?_ | refine st_ex ?_ | refine st_ex1 ?_ | refine st_eq ?_ | refine st_cr ?_ | refine st_td ?_ | refine st_tl ?_ | refine st_tt ?_ | refine st_tz ?_ | refine st_bs ?_ | refine st_ba ?_ | refine st_bp ?_ | refine st_bu ?_ | refine st_bg ?_ | refine st_sn ?_ | refine st_fo ?_ | refine st_al ?_ | refine st_ad ?_ | refine st_el ?_ | refine st_ed ?_ | refine st_cNq ?_ | refine st_cIn ?_ | refine st_cNn ?_)); walk1) | (leave1; walk_say "STEP leave1"; try dsimp only)) | fail "no step")); (try k_sweep); ((try (with_reducible rename Fr _ _ _ _ => F)); (try (with_reducible rename News _ _ _ _ => N))))
      refine h _ _ _ ys6 F.keep ?_ hpl6 ?_
      · cases e : s.heap.get? D6 with
        | none => rfl
        | some o => rw [hk5 D6 o (fun q => absurd (Heap.lt_size e) (by rw [q]; exact Nat.lt_irrefl _)) (kp3 _ _ e)] at hD6; cases hD6
      · have e := range_get (fun i => dueT i (r2 i)) (diffs r1 r2)
        have hl : ys5.length = (diffs r1 r2).length := hall5.length
        rw [hl, e] at hall6
        have r := RdAll.of_all2 (f := id) (S := S6) (h := h6) (fun _ _ r => r) hall6
        rw [List.map_id] at r
        exact r.top
end
theorem call_cell1 {prog : Program} {w : World} {A : Around} {R : Result → Shared → Prop} {s : Shared} {name : Str} {params : Arguments} {body : List Stmt} {scope : Scope}
    {pm cd doc : Value} {a : Addr} {o : Obj} {args : List Value} {binds : List (Str × Value)} (c : Str)
    (hroom : A.depth < recursionLimit) (ho : s.heap.get? a = some o) (hdata : o.data = .func (Calls.docDef name params body scope pm cd doc)) (hlim : s.heap.NoLimit) (hcd : s.heap.CodeRec cd name)
    (hbind : bindArgs (Calls.docDef name params body scope pm cd doc) ⟨args, []⟩ = pure binds)
    (hloc : ∀ x ∈ binds, scope.names.lookup x.1 = some .local) (hcs : ∀ n, cellsFrom n scope.names [] = [(c, n)]) (hbc : bindC (envOfC name scope s.heap.objs.size a cd).kindOf binds (fun _ => none) c = none)
    (h : ∀ h₁ tk oc, Fr s.heap s.heap.objs.size h₁ (bindL (envOfC name scope s.heap.objs.size a cd).kindOf binds fun _ => none) → News s.heap s.heap.objs.size h₁ [(s.heap.objs.size + 1, oc)] → oc.data = .cell none →
      wpAny (model prog w) (A.deeper (envOfC name scope s.heap.objs.size a cd)) (execs body (envOfC name scope s.heap.objs.size a cd))
        (fun f s' => R (.ok (.ret (match f with | .ret v => v | _ => .none))) s') F0
        { s with heap := h₁, toks := tk })
    (hco : scope.isCoroutine = false := by rfl) (hgen : scope.isGenerator = false := by rfl) (hk : scope.kind = .function := by rfl) :
    codeAny (model prog w) A (.call (.ref a) ⟨args, []⟩) R s := by
  refine codeAny_call_cells (fd := Calls.docDef name params body scope pm cd doc) hroom ho hdata hlim hcd rfl hbind rfl (fun x hx => .inl (hloc x hx)) ?_ hco hgen hk
  intro s₁ x
  obtain ⟨h₁, tk, rfl, _⟩ := x.done
  obtain ⟨oc, hoc, hdc⟩ := x.cell c (s.heap.objs.size + 1) (by show (cellsFrom (s.heap.objs.size + 1) scope.names []).lookup c = _; rw [hcs]; simp)
  have hdc' : oc.data = .cell none := hdc.trans (by rw [show bindC (callEnvC (docDef name params body scope pm cd doc) s.heap.objs.size a).kindOf binds (fun _ => none) c = none from hbc])
  have F : Fr s.heap s.heap.objs.size h₁ (bindL (envOfC name scope s.heap.objs.size a cd).kindOf binds fun _ => none) := ⟨x.toInCall.ns, x.toInCall.keep, Nat.le_refl _⟩
  refine wpAny_mono (h h₁ tk oc F ?_ hdc') (fun f s' r => r) fun e s' r => r.elim
  intro p hp
  simp at hp; subst hp
  exact ⟨hoc, Nat.succ_ne_self _, fresh_none (Nat.le_succ _)⟩
theorem all_news_but {h₀ h : Heap} {L : Addr} {m : Str → Option Value} (F : Fr h₀ L h m) (x : Addr) : ∃ nl, News h₀ L h nl ∧ (∀ p ∈ nl, p.1 ≠ x) ∧
    ∀ {h' : Heap} {m' : Str → Option Value} {nl' : List (Addr × Obj)}, Fr h₀ L h' m' → News h₀ L h' nl' → (∀ p ∈ nl, p ∈ nl') → ∀ b o, b ≠ L → b ≠ x → h.get? b = some o → h'.get? b = some o := by
  refine ⟨(List.range h.objs.size).filterMap (fun a => if (a = L ∨ a = x) ∨ (h₀.get? a).isSome then none else (h.get? a).map (fun o => (a, o))), ?_, ?_, ?_⟩
  · intro p hp
    obtain ⟨a, _, ha⟩ := List.mem_filterMap.mp hp
    by_cases hc : (a = L ∨ a = x) ∨ (h₀.get? a).isSome
    · rw [if_pos hc] at ha; cases ha
    · rw [if_neg hc] at ha
      cases ho : h.get? a with
      | none => rw [ho] at ha; cases ha
      | some o =>
        rw [ho] at ha; cases ha
        refine ⟨ho, fun q => hc (.inl (.inl q)), ?_⟩
        cases hq : h₀.get? a with
        | none => rfl
        | some o' => exact absurd (.inr (by rw [hq]; rfl)) hc
  · intro p hp q
    obtain ⟨a, _, ha⟩ := List.mem_filterMap.mp hp
    by_cases hc : (a = L ∨ a = x) ∨ (h₀.get? a).isSome
    · rw [if_pos hc] at ha; cases ha
    · rw [if_neg hc] at ha
      cases ho : h.get? a with
      | none => rw [ho] at ha; cases ha
      | some o =>
        rw [ho] at ha; cases ha
        exact hc (.inl (.inr q))
  · intro h' m' nl' F' N' hs b o hb hbx e
    cases hq : h₀.get? b with
    | some o' =>
      have := F.keep b o' hq
      rw [e] at this; cases this
      exact F'.keep b _ hq
    | none =>
      refine (N' (b, o) (hs _ (List.mem_filterMap.mpr ⟨b, List.mem_range.mpr (Heap.lt_size e), ?_⟩))).1
      rw [if_neg (by rintro ((q | q) | q); exact hb q; exact hbx q; rw [hq] at q; cases q), e]; rfl

theorem but_Fr' {h₀ h h' : Heap} {L a : Addr} {m : Str → Option Value} (F : Fr h₀ L h m) (haL : a ≠ L) (ha0 : h₀.get? a = none) (hk : ∀ b o, b ≠ a → h.get? b = some o → h'.get? b = some o) : Fr h₀ L h' m :=
  ⟨F.ns.at' fun o e => hk _ o (Ne.symm haL) e, fun b o e => hk b o (fun q => by subst q; rw [ha0] at e; cases e) (F.keep b o e), F.above⟩
theorem zip_snd : ∀ (l : List Value), (l.zip l).map (·.2) = l
  | [] => rfl
  | a :: l => by simp [zip_snd l]

def KasT.run {α : Type} (lt : Nat → Nat → Bool) : KasT α → α
  | .ret a => a
  | .ask i j k => KasT.run lt (k (lt i j))
def KasT.okRun {α : Type} (n : Nat) (lt : Nat → Nat → Bool) : KasT α → Bool
  | .ret _ => true
  | .ask i j k => decide (i < n) && decide (j < n) && KasT.okRun n lt (k (lt i j))

theorem kas_eval {α : Type} {cmp : Nat → Nat → (Bool → Shared → Prop) → Shared → Prop} {n : Nat} {lt : Nat → Nat → Bool} {s : Shared} {Q : α → Shared → Prop}
    (hask : ∀ i j (C : Bool → Shared → Prop), i < n → j < n → C (lt i j) s → cmp i j C s) : ∀ (t : KasT α), KasT.okRun n lt t = true → Q (KasT.run lt t) s → t.kasWp cmp Q s
  | .ret a, _, h => h
  | .ask i j k, ok, h => by
    simp only [KasT.okRun, Bool.and_eq_true, decide_eq_true_eq] at ok
    exact hask i j _ ok.1.1 ok.1.2 (kas_eval hask (k (lt i j)) ok.2 h)

def keyLtB (a b : Nat) : Bool :=
  if (keyD a).1 = (keyD b).1 then (if (keyD a).2 = (keyD b).2 then false else decide ((keyD a).2.cps.toList < (keyD b).2.cps.toList)) else decide ((keyD a).1.cps.toList < (keyD b).1.cps.toList)
theorem keyLtB_eq : ∀ a, a < 5 → ∀ b, b < 5 → keyLtB a b = decide (a < b) := by decide +kernel
def sortN (ns : List Nat) : List Nat := (List.range 5).filter fun i => ns.contains i
def perms : Nat → List (List Nat)
  | 0 => [[]]
  | n + 1 => (perms n).flatMap fun l => l :: (if l.length = n then ((List.range 5).filter fun i => !l.contains i).map fun i => i :: l else [])
theorem perms_sort : (perms 5).all (fun ns => decide (ns.length < 2) || (KasT.okRun ns.length (fun i j => decide (ns.getD i 0 < ns.getD j 0)) (kas_sort ns.length) &&
    decide ((KasT.run (fun i j => decide (ns.getD i 0 < ns.getD j 0)) (kas_sort ns.length)).toList.map (fun i => ns.getD i 0) = sortN ns) && ((KasT.run (fun i j => decide (ns.getD i 0 < ns.getD j 0)) (kas_sort ns.length)).toList.all fun i => decide (i < ns.length)))) = true := by decide +kernel
theorem nodup_len : ∀ (n : Nat) (l : List Nat), l.Nodup → (∀ i ∈ l, i < n) → l.length ≤ n
  | 0, l, _, h => by
    cases l with
    | nil => exact Nat.le_refl _
    | cons a l => exact absurd (h a (List.mem_cons_self ..)) (Nat.not_lt_zero _)
  | n + 1, l, hn, h => by
    by_cases hm : n ∈ l
    · have h1 := nodup_len n (l.erase n) (hn.erase n) fun i hi => by
        have h2 := h i (List.mem_of_mem_erase hi)
        have h3 : i ≠ n := fun q => by subst q; exact (hn.not_mem_erase) hi
        omega
      have h2 := List.length_erase_of_mem hm
      omega
    · have h1 := nodup_len n l hn fun i hi => by
        have h2 := h i hi
        have h3 : i ≠ n := fun q => hm (q ▸ hi)
        omega
      omega
theorem perms_mem : ∀ (n : Nat) (l : List Nat), l.Nodup → (∀ i ∈ l, i < 5) → l.length ≤ n → l ∈ perms n
  | 0, l, _, _, hl => by
    have : l = [] := List.length_eq_zero_iff.mp (by omega)
    subst this; exact List.mem_singleton.mpr rfl
  | n + 1, l, hn, h, hl => by
    rw [perms, List.mem_flatMap]
    by_cases hle : l.length ≤ n
    · exact ⟨l, perms_mem n l hn h hle, List.mem_cons_self ..⟩
    · cases l with
      | nil => simp at hle
      | cons a l =>
        have hll : l.length = n := by simp at hl hle; omega
        refine ⟨l, perms_mem n l (List.nodup_cons.mp hn).2 (fun i hi => h i (List.mem_cons_of_mem _ hi)) (by omega), List.mem_cons_of_mem _ ?_⟩
        rw [if_pos hll, List.mem_map]
        exact ⟨a, List.mem_filter.mpr ⟨List.mem_range.mpr (h a (List.mem_cons_self ..)), by simpa using (List.nodup_cons.mp hn).1⟩, rfl⟩
theorem sort_run (ns : List Nat) (hn : ns.Nodup) (h : ∀ i ∈ ns, i < 5) (h2 : 2 ≤ ns.length) :
    KasT.okRun ns.length (fun i j => decide (ns.getD i 0 < ns.getD j 0)) (kas_sort ns.length) = true ∧
    (KasT.run (fun i j => decide (ns.getD i 0 < ns.getD j 0)) (kas_sort ns.length)).toList.map (fun i => ns.getD i 0) = sortN ns ∧
    ∀ i ∈ (KasT.run (fun i j => decide (ns.getD i 0 < ns.getD j 0)) (kas_sort ns.length)).toList, i < ns.length := by
  have q := List.all_eq_true.mp perms_sort ns (perms_mem 5 ns hn h (nodup_len 5 ns hn h))
  rcases Bool.or_eq_true _ _ ▸ q with q | q
  · exact absurd (of_decide_eq_true q) (by omega)
  · simp only [Bool.and_eq_true, List.all_eq_true, decide_eq_true_eq] at q
    exact ⟨q.1.1, q.1.2, q.2⟩
theorem perms_small : (perms 5).all (fun ns => decide (2 ≤ ns.length) || decide (sortN ns = ns)) = true := by decide +kernel
theorem sort_small (ns : List Nat) (hn : ns.Nodup) (h : ∀ i ∈ ns, i < 5) (h2 : ¬ 2 ≤ ns.length) : sortN ns = ns := by
  have q := List.all_eq_true.mp perms_small ns (perms_mem 5 ns hn h (nodup_len 5 ns hn h))
  simp only [Bool.or_eq_true, decide_eq_true_eq] at q
  exact q.resolve_left h2

section
variable {prog : Program} {w : World} {A : Around} {s : Shared} {h₀ : Heap} {L : Addr} {m : Str → Option Value}
theorem key_lt {x y : Value} {a b : Nat} {C : Bool → Shared → Prop} (hx : RdT s.heap x (keyT a)) (hy : RdT s.heap y (keyT b)) (ha : a < 5) (hb : b < 5) (h : C (decide (a < b)) s) :
    wpAny (model prog w) A (keyLt' (tuples' true) x y) C (fun _ _ => False) s := by
  obtain ⟨t, vs, rfl, _, ⟨o1, ho1, _, n1, hd1⟩, hr⟩ := hx.tup_inv
  obtain ⟨v1, vs, rfl, q1, hr⟩ := hr.cons_inv
  obtain ⟨v2, vs, rfl, q2, hr⟩ := hr.cons_inv
  obtain rfl := hr.nil_inv
  obtain ⟨k1, rfl⟩ := q1.str_inv
  obtain ⟨k2, rfl⟩ := q2.str_inv
  obtain ⟨u, us, rfl, _, ⟨o2, ho2, _, n2, hd2⟩, hr⟩ := hy.tup_inv
  obtain ⟨u1, us, rfl, q1, hr⟩ := hr.cons_inv
  obtain ⟨u2, us, rfl, q2, hr⟩ := hr.cons_inv
  obtain rfl := hr.nil_inv
  obtain ⟨k3, rfl⟩ := q1.str_inv
  obtain ⟨k4, rfl⟩ := q2.str_inv
  rw [← keyLtB_eq a ha b hb] at h
  unfold keyLtB at h
  refine kat_lt ho1 hd1 ho2 hd2 ?_
  refine kat_cons (wpAny_eqBool_str ?_)
  by_cases e1 : (keyD a).1 = (keyD b).1
  · rw [decide_eq_true e1]
    rw [if_pos e1] at h
    refine kat_yes (kat_cons (wpAny_eqBool_str ?_))
    by_cases e2 : (keyD a).2 = (keyD b).2
    · rw [decide_eq_true e2]
      rw [if_pos e2] at h
      exact kat_yes (kat_nil h)
    · rw [decide_eq_false e2]
      rw [if_neg e2] at h
      exact kat_no (kat_one _ _ (PyProof.Rows.lt_str h))
  · rw [decide_eq_false e1]
    rw [if_neg e1] at h
    exact kat_no (oneLt_str h)

theorem key_kind {vs : List Value} {ns : List Nat} {Q : SortKind → Shared → Prop} (hk : All2 (fun v i => RdT s.heap v (keyT i)) vs ns) (hne : 0 < ns.length) (h : Q (tuples' true) s) :
    wpAny (model prog w) A (keyKind' vs.toArray) Q F0 s := by
  have key : ∃ fs, KatTups s.heap vs fs ∧ fs.length = ns.length ∧ ∀ v ∈ fs, ∃ x t, v = Value.str x t := by
    clear h hne
    induction hk with
    | nil => exact ⟨[], trivial, rfl, fun v hv => nomatch hv⟩
    | cons a r ih =>
      obtain ⟨fs, k, hl, hs⟩ := ih
      obtain ⟨t, vs, rfl, _, ⟨o1, ho1, hc, n1, hd1⟩, hr⟩ := a.tup_inv
      obtain ⟨v1, vs, rfl, q1, hr⟩ := hr.cons_inv
      obtain ⟨k1, rfl⟩ := q1.str_inv
      refine ⟨.str _ k1 :: fs, KatTups.cons ho1 hc hd1 rfl k, by simp [hl], fun v hv => ?_⟩
      rcases List.mem_cons.mp hv with rfl | hv
      · exact ⟨_, _, rfl⟩
      · exact hs v hv
  obtain ⟨fs, k, hl, hs⟩ := key
  refine kat_kind (T := .type "str") k (by omega) (fun v hv => ?_) rfl h
  obtain ⟨x, t, rfl⟩ := hs v hv
  exact Looks.of_pure rfl
theorem All2.getD {R : Value → Nat → Prop} : ∀ {as : List Value} {bs : List Nat}, All2 R as bs → ∀ (i : Nat), i < bs.length → R (as.getD i Value.none) (bs.getD i 0)
  | _, _, .nil, i, h => by simp at h
  | _, _, .cons a r, 0, _ => by simpa using a
  | _, _, .cons a r, i + 1, h => by simpa using r.getD i (by simpa using h)
theorem All2.mapD {R : Value → Nat → Prop} {as : List Value} {bs : List Nat} (h : All2 R as bs) : ∀ (p : List Nat), (∀ i ∈ p, i < bs.length) → All2 R (p.map fun i => as.getD i Value.none) (p.map fun i => bs.getD i 0)
  | [], _ => .nil
  | i :: p, hp => .cons (h.getD i (hp i (List.mem_cons_self ..))) (h.mapD p fun j hj => hp j (List.mem_cons_of_mem _ hj))

theorem key_stands {h h' : Heap} {a : Addr} {xs : Array Value} {k : Nat} {v : Value} {i : Nat} (hn : h.Ns L m) (ho : h.get? a = some (seqObj "list" xs k)) (hk : ∀ b o, b ≠ L → b ≠ a → h.get? b = some o → h'.get? b = some o) (r : RdT h v (keyT i)) : RdT h' v (keyT i) := by
  obtain ⟨t, us, rfl, _, ⟨o, ho', hc, n', hd⟩, hr⟩ := r.tup_inv
  refine Rd.of_tup trivial ⟨o, hk _ _ (fun q => ns_data hn (q ▸ ho') hd) (fun q => ?_) ho', hc, n', hd⟩ ?_
  · subst q; rw [ho'] at ho; cases ho; simp at hc
  obtain ⟨v1, us, rfl, q1, hr⟩ := hr.cons_inv
  obtain ⟨v2, us, rfl, q2, hr⟩ := hr.cons_inv
  obtain rfl := hr.nil_inv
  obtain ⟨t1, rfl⟩ := q1.str_inv
  obtain ⟨t2, rfl⟩ := q2.str_inv
  exact .cons (.str _ _) (.cons (.str _ _) .nil)
theorem sort_keys {a : Addr} {vs : List Value} {n : Nat} {ns : List Nat} {P : PySem.Fin → Shared → Prop} (F : Fr h₀ L s.heap m) (ho : s.heap.get? a = some (seqObj "list" vs.toArray n)) (ha0 : h₀.get? a = none)
    (hk : All2 (fun v i => RdT s.heap v (keyT i)) vs ns) (hn : ns.Nodup) (h5 : ∀ i ∈ ns, i < 5)
    (h : ∀ h' tk vs', Fr h₀ L h' m → (∀ b o, b ≠ L → b ≠ a → s.heap.get? b = some o → h'.get? b = some o) → h'.PlainList a vs'.toArray → All2 (fun v i => RdT h' v (keyT i)) vs' (sortN ns) → P (.done (.ret .none)) { s with heap := h', toks := tk }) :
    wpAny (model prog w) A (Builtin.«list.sort» ⟨[.ref a], []⟩) P F0 s := by
  have hlen := hk.length
  have h5' := nodup_len 5 ns hn h5
  have haL : a ≠ L := fun q => ns_data F.ns (q ▸ ho) rfl
  by_cases h2 : 2 ≤ vs.length
  · obtain ⟨nl, N, hna, back⟩ := all_news_but F a
    refine kat_list_sort F N ho haL ha0 hna h2 (by omega) fun e1 h1 F1 N1 => ?_
    have k1 : ∀ b o, b ≠ L → b ≠ a → s.heap.get? b = some o → h1.get? b = some o := back F1 N1 fun p hp => .tail _ hp
    have hk1 : All2 (fun v i => RdT h1 v (keyT i)) vs ns := hk.mono fun v i r => key_stands F.ns ho k1 r
    refine key_kind (s := { s with heap := h1 }) hk1 (by omega) ?_
    obtain ⟨ok, run, inr⟩ := sort_run ns hn h5 (by omega)
    rw [hlen]
    refine kas_eval (n := ns.length) (lt := fun i j => decide (ns.getD i 0 < ns.getD j 0)) (fun i j C hi hj hC => ?_) _ ok ?_
    · exact key_lt (s := { s with heap := h1 }) (hk1.getD i hi) (hk1.getD j hj) (h5 _ (by simp [List.getD, hi])) (h5 _ (by simp [List.getD, hj])) hC
    · refine KasFin.intro (g := fun o => (a, o) :: nl) F1 N1 (.head hna) fun h2' c F2 N2 => ?_
      have k2 : ∀ b o, b ≠ L → b ≠ a → s.heap.get? b = some o → h2'.get? b = some o := back F2 N2 fun p hp => .tail _ hp
      have hk2 : All2 (fun v i => RdT h2' v (keyT i)) vs ns := hk.mono fun v i r => key_stands F.ns ho k2 r
      refine h h2' _ _ F2 k2 ⟨_, (N2 (a, _) (.head _)).1⟩ ?_
      have := hk2.mapD _ inr
      rwa [run] at this
  · rw [sort_small ns hn h5 (by omega)] at h
    have ha : a < s.heap.objs.size := Heap.lt_size ho
    obtain ⟨e1, ho1⟩ : ∃ e1, (s.heap.update a (Obj.mapSeq fun _ => (#[] : Array Value))).get? a = some (seqObj "list" #[] e1) := ⟨_, get?_update_seq ho fun _ => #[]⟩
    have s1 := Heap.SameBut.update s.heap a (Obj.mapSeq fun _ => (#[] : Array Value))
    rw [list_sort_plain]
    refine wpAny_bind (listItems_at ho rfl ?_)
    refine wpAny_bind (listUpdate_at ho rfl ?_ (by rw [List.size_toArray, sizeLine_eq]; omega) (Nat.zero_le _))
    refine wpAny_bind (seqEpoch_at ho1 rfl ?_)
    refine wpAny_bind (wpAny_newTuple ?_ (by show vs.length ≤ _; rw [sizeLine_eq]; omega))
    refine wpAny_bind (wpAny_newList ?_ (Nat.zero_le _))
    refine wpAny_holding ?_
    dsimp only
    have hn2 : vs.toArray.size < 2 := by rw [List.size_toArray]; omega
    rw [if_pos hn2, if_pos hn2]
    refine wpAny_bind (wpAny_pure ?_)
    rw [StateT.run_pure]
    refine wpAny_bind (wpAny_pure ?_)
    dsimp only
    have hout : (arrOf (SortSt.mk' general' (vs.toArray.zip vs.toArray) #[] 7 none)).map (·.2) = vs.toArray := by
      show (vs.toArray.zip vs.toArray).map (·.2) = vs.toArray
      apply Array.toList_inj.mp
      simp only [Array.toList_map, Array.toList_zip, List.toList_toArray]
      exact zip_snd vs
    rw [hout]
    have ho2 : (((s.heap.update a (Obj.mapSeq fun _ => (#[] : Array Value))).push (seqObj "tuple" vs.toArray 0)).push (seqObj "list" #[] 0)).get? a = some (seqObj "list" #[] e1) := Heap.get?_push_of_some _ (Heap.get?_push_of_some _ ho1)
    refine wpAny_bind (seqEpoch_at ho2 rfl ?_)
    refine wpAny_bind (listUpdate_at ho2 rfl ?_ (Nat.zero_le _) (by rw [List.size_toArray, sizeLine_eq]; omega))
    simp only [bne_self_eq_false, Bool.false_eq_true, if_false]
    refine wpAny_pure ?_
    have s2 := Heap.SameBut.update (((s.heap.update a (Obj.mapSeq fun _ => (#[] : Array Value))).push (seqObj "tuple" vs.toArray 0)).push (seqObj "list" #[] 0)) a (Obj.mapSeq fun _ => vs.toArray)
    have kk : ∀ b o, b ≠ a → s.heap.get? b = some o → ((((s.heap.update a (Obj.mapSeq fun _ => (#[] : Array Value))).push (seqObj "tuple" vs.toArray 0)).push (seqObj "list" #[] 0)).update a (Obj.mapSeq fun _ => vs.toArray)).get? b = some o :=
      fun b o hb e => s2.extBut b o hb (Heap.get?_push_of_some _ (Heap.get?_push_of_some _ (s1.extBut b o hb e)))
    refine h _ _ vs (but_Fr' F haL ha0 kk) (fun b o _ hb e => kk b o hb e) ⟨_, get?_update_seq ho2 fun _ => vs.toArray⟩ (hk.mono fun v i r => key_stands F.ns ho (fun b o _ hb e => kk b o hb e) r)

theorem sorted_call {x : Addr} {vs : List Value} {ns : List Nat} {Q : Value → Shared → Prop} (F : Fr h₀ L s.heap m)
    (hcol : ∀ (Q' : List Value → Shared → Prop), (∀ h' tk, Kp s.heap h' → Q' vs { s with heap := h', toks := tk }) → wpAny (model prog w) A.in1 (collect (.ref x)) Q' F0 s)
    (hk : All2 (fun v i => RdT s.heap v (keyT i)) vs ns) (hn : ns.Nodup) (h5 : ∀ i ∈ ns, i < 5)
    (h : ∀ h' tk D vs', Fr h₀ L h' m → (∀ b o, b ≠ L → s.heap.get? b = some o → h'.get? b = some o) → s.heap.get? D = none → h'.PlainList D vs'.toArray → All2 (fun v i => RdT h' v (keyT i)) vs' (sortN ns) → Q (.ref D) { s with heap := h', toks := tk }) :
    wpAny (model prog w) A (call (.builtin "sorted") [.ref x]) Q F0 s := by
  refine Calls.call_function_entry kind_sorted plain_sorted entry_sorted (args_sorted1 _) ?_
  unfold Builtin.«sorted»
  refine wpAny_bind (m := checkCount "sorted" 1 1 _) (wpAny_pure ?_)
  refine wpAny_bind (hcol _ fun h1 tk1 k1 => ?_)
  have hlen := hk.length
  have h5' := nodup_len 5 ns hn h5
  refine wpAny_bind (wpAny_newList ?_ (by rw [sizeLine_eq]; omega))
  have F1 : Fr h₀ L (h1.push (seqObj "list" vs.toArray 0)) m := (F.keeps k1).push _
  have hD : s.heap.get? h1.objs.size = none := by
    cases e : s.heap.get? h1.objs.size with
    | none => rfl
    | some o => exact absurd (Heap.lt_size (k1 _ _ e)) (Nat.lt_irrefl _)
  refine wpAny_bind (wpAny_holding (wpAny_call_entry slot_list_sort ⟨_, Heap.get?_push_size _ rfl, rfl⟩ entry_list_sort ?body (args_list_sort _)))
  case body =>
    refine sort_keys (s := { s with heap := h1.push (seqObj "list" vs.toArray 0), toks := tk1 }) (a := h1.objs.size) F1 (Heap.get?_push_size _ rfl) ?_ (hk.mono fun v i r => (r.keep k1).keep fun b o e => Heap.get?_push_of_some _ e) hn h5 fun h' tk vs' F' k' hpl hall => ?_
    · cases e : h₀.get? h1.objs.size with
      | none => rfl
      | some o => rw [F.keep _ _ e] at hD; cases hD
    · refine ⟨_, rfl, wpAny_pure ⟨_, rfl, ?_⟩⟩
      refine h h' tk _ vs' F' (fun b o hb e => k' b o hb (fun q => ?_) (Heap.get?_push_of_some _ (k1 b o e))) hD hpl hall
      subst q; rw [hD] at e; cases e
end
section
variable {prog : Program} {w : World} {A : Around} {s : Shared}

theorem kdl_raw {d : Addr} (lo : (d == sysModules) = false) (es : Array DictEntry) (ep : Nat) : KdlSrc prog w "dict" d d es.size (fun i v => ∃ e, es[i]? = some e ∧ v = e.key) (fun h => h.get? d = some (dobj es ep)) where
  type := fun _ hm => ⟨_, hm, rfl⟩
  there := fun _ hm => ⟨Heap.lt_size hm, Heap.lt_size hm⟩
  keep := fun _ _ hm hk => hk d (.inl rfl) _ hm
  notList := by decide
  notTuple := by decide
  hint := fun _ _ _ _ hm hq => kdl_hint_dict ⟨_, hm, rfl⟩ hq
  iter := fun A s hh hm => ⟨_, _, (fun _ _ hq => wpAny_mono (pyIter_raw lo hm hq) (fun _ _ x => x) F0_mono), Walks.dictRaw hh _ d (Nat.ne_of_lt (Heap.lt_size hm)) es ep, ⟨Heap.get?_push_size _ rfl, Heap.get?_push_of_some _ hm⟩⟩

def keyVals (xs : List (List Str × Addr × Value)) : List Value := xs.map fun x => .ref x.2.1

theorem items_keys {knd : HeapKind prog w (List Str)} {es : Array DictEntry} {xs : List (List Str × Addr × Value)} {acc : Array Value} (hes : es.toList = xs.map (entryOfKey knd)) (h : ItemsOf (fun i v => ∃ e, es[i]? = some e ∧ v = e.key) acc es.size) :
    acc.toList = keyVals xs := by
  obtain ⟨hs, hi⟩ := h
  apply List.ext_getElem?
  intro i
  have hlen : es.size = xs.length := by rw [← Array.length_toList, hes, List.length_map]
  by_cases hlt : i < xs.length
  · have h1 : i < acc.size := by omega
    obtain ⟨e, he, hv⟩ := hi i acc[i] (by simp [h1])
    rw [← Array.getElem?_toList, hes, List.getElem?_map, List.getElem?_eq_getElem (h := hlt)] at he
    simp only [Option.map_some, Option.some.injEq] at he
    rw [Array.getElem?_toList, Array.getElem?_eq_getElem h1, hv, keyVals, List.getElem?_map, List.getElem?_eq_getElem (h := hlt), ← he]
    rfl
  · rw [Array.getElem?_toList, Array.getElem?_eq_none (by omega), keyVals, List.getElem?_map, List.getElem?_eq_none (by omega)]; rfl

theorem list_dict {d : Addr} {xs : List (List Str × Addr × Value)} {Q : Value → Shared → Prop} (hh : A.handled = none) (lo : (d == sysModules) = false) (hm : s.heap.DictOfH (kt prog w) d xs) (hn : xs.length ≤ sizeLine)
    (h : ∀ h' tk D, Kp s.heap h' → s.heap.get? D = none → h'.PlainList D (keyVals xs).toArray → Q (.ref D) { s with heap := h', toks := tk }) :
    wpAny (model prog w) A (call (.type "list") [.ref d]) Q F0 s := by
  obtain ⟨es, ep, ho, hes, his, hnd⟩ := dictOfH_raw hm
  have hlen : es.size = xs.length := by rw [← Array.length_toList, hes, List.length_map]
  refine kdl_call (kdl_raw lo es ep) hh ho (by omega) fun h' tk acc' c' hk hD hacc => ?_
  refine h h' tk _ hk (fresh_none (Nat.le_refl _)) ⟨c', ?_⟩
  have e := items_keys hes hacc
  rw [hD, ← e, Array.toArray_toList]

theorem collect_dict {d : Addr} {xs : List (List Str × Addr × Value)} {Q : List Value → Shared → Prop} (hh : A.handled = none) (lo : (d == sysModules) = false) (hm : s.heap.DictOfH (kt prog w) d xs) (hn : xs.length ≤ sizeLine)
    (h : ∀ h' tk, Kp s.heap h' → Q (keyVals xs) { s with heap := h', toks := tk }) :
    wpAny (model prog w) A (collect (.ref d)) Q F0 s := by
  obtain ⟨es, ep, ho, hes, his, hnd⟩ := dictOfH_raw hm
  have hlen : es.size = xs.length := by rw [← Array.length_toList, hes, List.length_map]
  refine kdu_collect (kdl_raw lo es ep) hh ho (by omega) fun h' tk acc hk hacc => ?_
  rw [items_keys hes hacc]
  exact h h' tk hk

theorem notin_heap {K : Type} [DecidableEq K] {knd : HeapKind prog w K} {d a : Addr} {k : K} {xs : List (K × Addr × Value)} {E : Value → Shared → Prop} {Q : Value → Shared → Prop} (hu : knd.room A.in1) (hkey : knd.is s.heap k a) (hd : (d == sysModules) = false) (hm : s.heap.DictOfH knd d xs)
    (h : Q (.bool (!(atKey xs k).isSome)) { s with toks := s.toks + knd.draws k }) : wpAny (model prog w) A (compareOp .NotIn (.ref a) (.ref d)) Q E s := by
  have q := wpAny_in_heap (A := A) (E := E) (Q := fun v s' => v = .bool (atKey xs k).isSome ∧ s' = { s with toks := s.toks + knd.draws k }) hu hkey hd hm ⟨rfl, rfl⟩
  have q' : wpAny (model prog w) A (contains (.ref d) (.ref a)) (fun b s' => b = (atKey xs k).isSome ∧ s' = { s with toks := s.toks + knd.draws k }) E s := by
    unfold contains
    try with_reducible refine wpAny_holding ?_
    refine wpAny_bind (wpAny_specialOf hm.typeIs slot_dict_contains.lookup ?_)
    show wpAny _ _ (if (some (Value.builtin "dict.__contains__") == some Value.none) = true then _ else _) _ E s
    rw [if_neg (by rw [beq_builtin_none]; exact Bool.false_ne_true)]
    refine wpAny_bind (wpAny_callSpecialUnlessNone?_slot (name := Str.ofString "__contains__") hm.typeIs slot_dict_contains
      (wpAny_call_entry slot_dict_contains hm.typeIs entry_dict_contains ?_ (args_dict_contains _ _)))
    show wpAny _ _ (dictGet d (.ref a) >>= _) _ _ s
    refine wpAny_bind (wpAny_dictGet_heap hu hkey hm ?_)
    cases hf : atKey xs k with
    | some p =>
      show wpAny _ _ (ret (.bool true)) _ _ _
      exact wpAny_pure ⟨_, rfl, wpAny_truthy_bool ⟨rfl, rfl⟩⟩
    | none =>
      show wpAny _ _ (Builtin.Dict.pendingKey? d (.ref a) >>= _) _ _ _
      exact wpAny_bind (wpAny_pendingKey_other hd (wpAny_pure ⟨_, rfl, wpAny_truthy_bool ⟨rfl, rfl⟩⟩))
  show wpAny _ _ (do return .bool (!(← contains (.ref d) (.ref a)))) Q E s
  refine wpAny_bind (wpAny_mono q' (fun b s' hb => ?_) fun _ _ x => x)
  obtain ⟨rfl, rfl⟩ := hb
  exact wpAny_pure h

theorem Iter.reBd {T : Expr} {ev : Addr → Env} {I : Addr} {n : Nat} {W RD : Nat → Prop} {St : Nat → Heap → Prop} {Bd Bd' : Nat → (Str → Option Value) → (Str → Option Value) → Prop}
    (It : Iter prog w A T ev I n W RD St Bd) (hB : ∀ i m m', Bd i m m' → Bd' i m m') : Iter prog w A T ev I n W RD St Bd' where
  sub := It.sub
  frame := It.frame
  item := fun i s' C m Q hi st hC hloc hn hQ => It.item i s' C m Q hi st hC hloc hn fun h' tk m' st' hn' hb hk' => hQ h' tk m' st' hn' (hB _ _ _ hb) hk'
  done := It.done
  self := It.self
theorem drawn_dict {x : Str} {px : Pos} {ev : Addr → Env} {U : Nat → Prop} {d : Addr} {xs : List (List Str × Addr × Value)} (hh : A.handled = none) (lo : (d == sysModules) = false) (hm : s.heap.DictOfH (kt prog w) d xs)
    (hU : ∀ b, U b → b < s.heap.objs.size) (hUd : ¬ U d) (hl : ∀ C, (ev C).kindOf x = some .local) (hk : ∀ C, (ev C).scope.kind = .function) :
    wpAny (model prog w) A (pyIter (.ref d)) (Drawn prog w A (.Name x px) ev U xs.length (BT [x] (fun i ws => ∃ y, xs[i]? = some y ∧ ws = [.ref y.2.1])) s.heap s) F0 s := by
  obtain ⟨es, ep, ho, hes, his, hnd⟩ := dictOfH_raw hm
  have hlen : es.size = xs.length := by rw [← Array.length_toList, hes, List.length_map]
  refine pyIter_raw lo ho ?_
  have Wk := Walks.dictRaw (prog := prog) (w := w) hh s.heap.objs.size d (Nat.ne_of_lt (Heap.lt_size ho)) es ep
  have It := Iter.name (px := px) (S := fun b => b < s.heap.objs.size ∧ ¬ U b) (g := s.heap) Wk hl hk (by intro b hb; simp; have := hb.1; omega)
  have It' := It.reBd (Bd' := BT [x] (fun i ws => ∃ y, xs[i]? = some y ∧ ws = [.ref y.2.1])) (fun i m m' hB => by
      obtain ⟨v, ⟨e, he, rfl⟩, rfl⟩ := hB
      rw [← Array.getElem?_toList, hes, List.getElem?_map] at he
      cases hx : xs[i]? with
      | none => rw [hx] at he; cases he
      | some y =>
        rw [hx] at he
        simp only [Option.map_some, Option.some.injEq] at he
        subst he
        exact ⟨[.ref y.2.1], ⟨y, hx, rfl⟩, rfl, rfl⟩)
  rw [← hlen]
  refine ⟨_, _, _, _, rfl, It', ⟨⟨Heap.get?_push_size _ rfl, Heap.get?_push_of_some _ ho⟩, fun b o hb e => Heap.get?_push_of_some _ e⟩, ?_, ?_, ?_, ⟨_, _, rfl⟩, fun b o e => Heap.get?_push_of_some _ e⟩
  · intro b hb
    show b < (s.heap.push _).objs.size
    rw [Heap.size_push]
    rcases hb with hb | hb
    · have := hb.1; omega
    · simp at hb; rcases hb with rfl | rfl
      · exact Nat.lt_succ_self _
      · exact Nat.lt_succ_of_lt (Heap.lt_size ho)
  · intro b hb q
    rcases q with q | q
    · exact q.2 hb
    · simp at q; rcases q with rfl | rfl
      · exact Nat.lt_irrefl _ (hU _ hb)
      · exact hUd hb
  · intro b hb
    simp at hb; subst hb
    exact fresh_none (Nat.le_refl _)

end
def present (r : Row) : List Nat := (List.range 5).filter fun i => (r i).isSome
def attrC (r : Row) (i : Nat) : Dat := match r i with
  | some c => attrT i c
  | none => .none
theorem attrs_eq (r : Row) : attrs r = (present r).map (attrC r) := by
  unfold attrs present
  induction List.range 5 with
  | nil => rfl
  | cons a l ih =>
    rw [List.filterMap_cons, List.filter_cons]
    cases h : r a with
    | none => simpa [h] using ih
    | some c => simp only [Option.map_some, Option.isSome_some, if_true, List.map_cons]; rw [ih]; simp [attrC, h]
theorem RdAll.to_all2 {S : Nat → Prop} {h : Heap} {α : Type} {f : α → Dat} : ∀ {vs : List Value} {xs : List α}, RdAll S h vs (xs.map f) → All2 (fun v x => Rd S h v (f x)) vs xs
  | vs, [], r => by rw [r.nil_inv]; exact .nil
  | vs, x :: xs, r => by
    obtain ⟨v, ws, rfl, a, r'⟩ := RdAll.cons_inv r
    exact .cons a r'.to_all2
theorem present_lt {r : Row} : ∀ i ∈ present r, i < 5 := fun i hi => List.mem_range.mp (List.mem_filter.mp hi).1
theorem present_some {r : Row} : ∀ i ∈ present r, ∃ c, r i = some c := fun i hi => Option.isSome_iff_exists.mp (List.mem_filter.mp hi).2
theorem present_nodup (r : Row) : (present r).Nodup := List.Nodup.sublist List.filter_sublist List.nodup_range
theorem keyL_inj : ∀ i, i < 5 → ∀ j, j < 5 → keyL i = keyL j → i = j := by decide +kernel
theorem keyL_nodup : ∀ (l : List Nat), l.Nodup → (∀ i ∈ l, i < 5) → (l.map keyL).Nodup
  | [], _, _ => List.nodup_nil
  | a :: l, hn, h => by
    rw [List.map_cons, List.nodup_cons]
    refine ⟨fun hm => ?_, keyL_nodup l (List.nodup_cons.mp hn).2 fun i hi => h i (List.mem_cons_of_mem _ hi)⟩
    obtain ⟨b, hb, e⟩ := List.mem_map.mp hm
    have := keyL_inj b (h b (List.mem_cons_of_mem _ hb)) a (h a (List.mem_cons_self ..)) e
    subst this
    exact (List.nodup_cons.mp hn).1 hb
def KV (h : Heap) (g : Nat → Dat) (x : List Str × Addr × Value) (i : Nat) : Prop := x.1 = keyL i ∧ RdT h (.ref x.2.1) (keyT i) ∧ RdT h x.2.2 (g i)
theorem KV.keep {h h' : Heap} {g : Nat → Dat} {x : List Str × Addr × Value} {i : Nat} (r : KV h g x i) (k : Kp h h') : KV h' g x i := ⟨r.1, r.2.1.keep k, r.2.2.keep k⟩
theorem keys_fst {h : Heap} {g : Nat → Dat} : ∀ {xs : List (List Str × Addr × Value)} {ps : List Nat}, All2 (KV h g) xs ps → xs.map (·.1) = ps.map keyL
  | _, _, .nil => rfl
  | _, _, .cons a r => by rw [List.map_cons, List.map_cons, a.1, keys_fst r]
theorem keyVals_all {h : Heap} {g : Nat → Dat} : ∀ {xs : List (List Str × Addr × Value)} {ps : List Nat}, All2 (KV h g) xs ps → All2 (fun v i => RdT h v (keyT i)) (keyVals xs) ps
  | _, _, .nil => .nil
  | _, _, .cons a r => .cons a.2.1 (keyVals_all r)
def DictR (prog : Program) (w : World) (h : Heap) (d : Addr) (g : Nat → Dat) (ps : List Nat) : Prop := ∃ xs, h.DictOfH (kt prog w) d xs ∧ All2 (KV h g) xs ps
theorem DictR.keep {prog : Program} {w : World} {h h' : Heap} {d : Addr} {g : Nat → Dat} {ps : List Nat} (r : DictR prog w h d g ps) (k : Kp h h') : DictR prog w h' d g ps := by
  obtain ⟨xs, ⟨o, es, ep, ho, hx, hd, hes, his, hn⟩, hk⟩ := r
  exact ⟨xs, ⟨o, es, ep, k _ _ ho, hx, hd, hes, fun x hx => (let ⟨o, it, n, ho, q⟩ := his x hx; ⟨o, it, n, k _ _ ho, q⟩), hn⟩, hk.mono fun _ _ q => q.keep k⟩

def Tq (h h' : Heap) : Prop := ∀ b o vs n, h.get? b = some o → o.cls = .type "tuple" → o.data = .seq vs n → h'.get? b = some o
theorem Tq.of_kp {h h' : Heap} (k : Kp h h') : Tq h h' := fun b o _ _ e _ _ => k b o e
theorem Tq.trans {h h' h'' : Heap} (a : Tq h h') (b : Tq h' h'') : Tq h h'' := fun x o vs n e c d => b x o vs n (a x o vs n e c d) c d
theorem Tq.of_but {h h' : Heap} {X : Addr → Prop} (hk : ∀ b o, ¬ X b → h.get? b = some o → h'.get? b = some o) (hX : ∀ b o vs n, X b → h.get? b = some o → o.cls = .type "tuple" → o.data = .seq vs n → False) : Tq h h' :=
  fun b o vs n e c d => hk b o (fun q => hX b o vs n q e c d) e
mutual
theorem Rd.tq {h h' : Heap} (k : Tq h h') : ∀ {v : Value} {d : Dat}, RdT h v d → RdT h' v d
  | _, _, .none => .none
  | _, _, .str x t => .str x t
  | _, _, .tup _ ho hc hd r => .tup trivial (k _ _ _ _ ho hc hd) hc hd (RdAll.tq k r)
theorem RdAll.tq {h h' : Heap} (k : Tq h h') : ∀ {vs : List Value} {ds : List Dat}, RdsT h vs ds → RdsT h' vs ds
  | _, _, .nil => .nil
  | _, _, .cons a r => .cons (Rd.tq k a) (RdAll.tq k r)
end
theorem KV.tq {h h' : Heap} {g : Nat → Dat} {x : List Str × Addr × Value} {i : Nat} (r : KV h g x i) (k : Tq h h') : KV h' g x i := ⟨r.1, r.2.1.tq k, r.2.2.tq k⟩
theorem DictR.tq {prog : Program} {w : World} {h h' : Heap} {d : Addr} {g : Nat → Dat} {ps : List Nat} (r : DictR prog w h d g ps) (k : Tq h h') (hd : ∀ o, h.get? d = some o → h'.get? d = some o) : DictR prog w h' d g ps := by
  obtain ⟨xs, ⟨o, es, ep, ho, hx, hd', hes, his, hn⟩, hk⟩ := r
  exact ⟨xs, ⟨o, es, ep, hd _ ho, hx, hd', hes, fun x hx => (let ⟨o, it, n, ho, hc, hdt, q⟩ := his x hx; ⟨o, it, n, k _ _ _ _ ho hc hdt, hc, hdt, q⟩), hn⟩, hk.mono fun _ _ q => q.tq k⟩
theorem kv_at {h : Heap} {g : Nat → Dat} : ∀ {xs : List (List Str × Addr × Value)} {ps : List Nat}, All2 (KV h g) xs ps → ∀ {i : Nat}, i < 5 → (∀ j ∈ ps, j < 5) →
    (i ∈ ps → ∃ (j : Nat) (q : Addr × Value), xs[j]? = some (keyL i, q) ∧ RdT h q.2 (g i)) ∧ (i ∉ ps → ∀ (j : Nat) (q : Addr × Value), xs[j]? ≠ some (keyL i, q))
  | _, _, .nil, i, _, _ => ⟨(fun h => nomatch h), fun _ j q e => by simp at e⟩
  | _, _, .cons (a := x) (b := p) a r, i, hi, hp => by
    obtain ⟨h1, h2⟩ := kv_at r hi fun j hj => hp j (List.mem_cons_of_mem _ hj)
    refine ⟨fun hm => ?_, fun hm j q e => ?_⟩
    · rcases List.mem_cons.mp hm with rfl | hm
      · exact ⟨0, x.2, by rw [List.getElem?_cons_zero, ← a.1], a.2.2⟩
      · obtain ⟨j, q, e, rd⟩ := h1 hm
        exact ⟨j + 1, q, by rw [List.getElem?_cons_succ]; exact e, rd⟩
    · cases j with
      | zero =>
        rw [List.getElem?_cons_zero] at e
        have e' := Option.some.inj e
        have := a.1
        rw [e'] at this
        exact hm (List.mem_cons.mpr (.inl (keyL_inj i hi p (hp p (List.mem_cons_self ..)) this)))
      | succ j => exact h2 (fun q => hm (List.mem_cons_of_mem _ q)) j q (by simpa using e)
theorem DictR.at {prog : Program} {w : World} {h : Heap} {d : Addr} {g : Nat → Dat} {ps : List Nat} (r : DictR prog w h d g ps) (hp : ∀ j ∈ ps, j < 5) {i : Nat} (hi : i < 5) :
    ∃ xs, h.DictOfH (kt prog w) d xs ∧ All2 (KV h g) xs ps ∧ ((i ∈ ps ∧ ∃ p, atKey xs (keyL i) = some p ∧ RdT h p.2 (g i)) ∨ (i ∉ ps ∧ atKey xs (keyL i) = none)) := by
  obtain ⟨xs, hm, hk⟩ := r
  refine ⟨xs, hm, hk, ?_⟩
  obtain ⟨h1, h2⟩ := kv_at hk hi hp
  by_cases hi' : i ∈ ps
  · obtain ⟨j, q, e, rd⟩ := h1 hi'
    obtain ⟨_, _, _, _, _, _, _, _, hn⟩ := hm
    exact .inl ⟨hi', q, atKey_of_get hn e, rd⟩
  · exact .inr ⟨hi', atKey_none_of_get fun j q => h2 hi' j q⟩

theorem pairs_of {prog : Program} {w : World} {S : Nat → Prop} {h : Heap} {g : Nat → Dat} : ∀ {ys : List Value} {ps : List Nat}, All2 (fun v i => Rd S h v (.tuple [keyT i, g i])) ys ps →
    ∃ xs, All2 (PairAt prog w h) ys xs ∧ All2 (KV h g) xs ps
  | _, _, .nil => ⟨[], .nil, .nil⟩
  | _, _, .cons (b := i) a r => by
    obtain ⟨xs, h1, h2⟩ := pairs_of (prog := prog) (w := w) r
    obtain ⟨p, ws, rfl, _, ht, hr⟩ := a.tup_inv
    obtain ⟨v1, ws, rfl, q1, hr⟩ := hr.cons_inv
    obtain ⟨v2, ws, rfl, q2, hr⟩ := hr.cons_inv
    obtain rfl := hr.nil_inv
    obtain ⟨ka, rfl, _, hkey⟩ := key_of (prog := prog) (w := w) (xs := keyL i) q1
    exact ⟨(keyL i, ka, v2) :: xs, .cons ⟨p, rfl, ht, hkey⟩ h1, .cons ⟨rfl, q1.top, q2.top⟩ h2⟩

theorem elt_tup2 {s : Shared} {C : Addr} {m : Str → Option Value} {S : Nat → Prop} {tk : Nat} {v : Value} {d : Dat} {vs : List Value} {ds : List Dat} (hns : s.heap.Ns C m) (hC : ∀ b, C < b → S b) (hv : Rd S s.heap v d) (hr : RdAll S s.heap vs ds) :
    Keeps s { s with heap := (s.heap.push { cls := .type "tuple", data := .seq vs.toArray }).push { cls := .type "tuple", data := .seq [v, .ref s.heap.objs.size].toArray }, toks := tk } ∧
    Rd S ((s.heap.push { cls := .type "tuple", data := .seq vs.toArray }).push { cls := .type "tuple", data := .seq [v, .ref s.heap.objs.size].toArray }) (.ref (s.heap.push { cls := .type "tuple", data := .seq vs.toArray }).objs.size) (.tuple [d, .tuple ds]) := by
  have k1 : Kp s.heap (s.heap.push { cls := .type "tuple", data := .seq vs.toArray }) := fun _ _ e => Heap.get?_push_of_some _ e
  have k2 : Kp (s.heap.push { cls := .type "tuple", data := .seq vs.toArray }) ((s.heap.push { cls := .type "tuple", data := .seq vs.toArray }).push { cls := .type "tuple", data := .seq [v, .ref s.heap.objs.size].toArray }) := fun _ _ e => Heap.get?_push_of_some _ e
  have hlt : C < s.heap.objs.size := hns.lt
  refine ⟨⟨_, _, rfl, fun b o e => k2 b o (k1 b o e)⟩, Rd.of_tup (hC _ ?_) ⟨_, Heap.get?_push_size _ rfl, rfl, _, rfl⟩ (.cons ((hv.keep k1).keep k2) (.cons (Rd.of_tup (hC _ hlt) ⟨_, k2 _ _ (Heap.get?_push_size _ rfl), rfl, _, rfl⟩ ((hr.keep k1).keep k2)) .nil))⟩
  rw [Heap.size_push]; exact Nat.lt_succ_of_lt hlt

section
variable {prog : Program} {w : World} {A : Around} {s₁ : Shared} {env : Env} {Q : Value → Shared → Prop}
theorem rows_pack {scope : Scope} {cl : List (Str × Addr)} {p1 p2 p3 p4 p5 p6 p7 p8 p9 : Pos} {k k2 k3 : Nat} {t : Addr} {vs : List Value} {r : Row} (hh : A.handled = none)
    (ht : IsTup s₁.heap t vs.toArray) (hr : RdsT s₁.heap vs (attrs r))
    (hl : ∀ C, ∀ x ∈ (["key", "name", "value"] : List Str), (compEnvC scope cl C env).kindOf x = some .local) (hk : scope.kind = .function)
    (helt : ∀ C (s : Shared) m₀ x1 x2 x3 i (c : Str × Str) (S : Nat → Prop), s.heap.Ns C (upd m₀ ([("key" : Str), "name", "value"].zip [x1, x2, x3])) → (∀ b, C < b → S b) → Rd S s.heap x1 (keyT i) → Rd S s.heap x2 (.str c.1) → Rd S s.heap x3 (.str c.2) →
      wpAny (model prog w) A (eval (.Tuple [.Name "key" p5, .Tuple [.Name "name" p6, .Name "value" p7] k2 p8] k3 p9) (compEnvC scope cl C env)) (fun y s' => Keeps s s' ∧ Rd S s'.heap y (.tuple [keyT i, .tuple [.str c.1, .str c.2]])) F0 s)
    (fin : ∀ h' tk ys D xs, s₁.heap.get? D = none → h'.PlainList D ys.toArray → All2 (PairAt prog w h') ys xs → All2 (KV h' fun i => cellT (r i)) xs (present r) → Kp s₁.heap h' → Q (.ref D) { s₁ with heap := h', toks := tk }) :
    ∃ (n : Nat) (Bd : Nat → (Str → Option Value) → (Str → Option Value) → Prop) (δ : Type) (d : Nat → Option δ) (RelS : (Nat → Prop) → Heap → Value → δ → Prop) (g : Heap),
      wpAny (model prog w) A (pyIter (.ref t)) (Drawn prog w A (.Tuple [.Name "key" p1, .Name "name" p2, .Name "value" p3] k p4) (fun C => compEnvC scope cl C env) (fun _ => False) n Bd g s₁) F0 s₁ ∧ n ≤ sizeLine ∧ RelOk RelS ∧
      Tests prog w A [] (fun C => compEnvC scope cl C env) g n Bd d ∧ Elts prog w A (.Tuple [.Name "key" p5, .Tuple [.Name "name" p6, .Name "value" p7] k2 p8] k3 p9) (fun C => compEnvC scope cl C env) (fun _ => False) g n Bd d RelS ∧
      (∀ h' tk ys D S, g.get? D = none → h'.PlainList D ys.toArray → All2 (RelS S h') ys ((List.range n).filterMap d) → Kp g h' → Q (.ref D) { s₁ with heap := h', toks := tk }) := by
  rw [attrs_eq] at hr
  have ha := RdAll.to_all2 hr
  have hlen := ha.length
  have h5 := nodup_len 5 _ (present_nodup r) present_lt
  refine ⟨vs.length, BT ["key", "name", "value"] (fun j ws => ∃ x1 x2 x3 i c, ws = [x1, x2, x3] ∧ (present r)[j]? = some i ∧ r i = some c ∧ RdT s₁.heap x1 (keyT i) ∧ RdT s₁.heap x2 (.str c.1) ∧ RdT s₁.heap x3 (.str c.2)), Nat, fun j => ((present r)[j]?).map id,
    fun S h v i => Rd S h v (.tuple [keyT i, cellT (r i)]), s₁.heap, ?_, by rw [sizeLine_eq]; omega, ?_, ?_, ?_, ?_⟩
  · refine drawn_tup (xs := ["key", "name", "value"]) hh (.inr ht) (.cons (.cons (.cons .nil))) ?_ (fun _ q => q.elim) (fun q => q) hl (fun _ => hk)
    intro j v hv
    obtain ⟨i, hi, hr⟩ := ha.get2 hv
    obtain ⟨c, hc⟩ := present_some i (List.mem_of_getElem? hi)
    simp only [attrC, hc, attrT] at hr
    obtain ⟨q, ws, rfl, _, ht, hw⟩ := hr.tup_inv
    obtain ⟨v1, ws, rfl, q1, hw⟩ := hw.cons_inv
    obtain ⟨v2, ws, rfl, q2, hw⟩ := hw.cons_inv
    obtain ⟨v3, ws, rfl, q3, hw⟩ := hw.cons_inv
    obtain rfl := hw.nil_inv
    exact ⟨q, _, rfl, fun q => q, ht, rfl, v1, v2, v3, i, c, rfl, hi, hc, q1, q2, q3⟩
  · exact fun S h h' v x hk' r => r.mono fun b o hb e => ⟨hb, hk' b o hb e⟩
  · refine tests_nil fun j hj => ?_
    rw [List.getElem?_eq_getElem (h := by omega)]; rfl
  · rintro j i s m₀ m C S hj hdd ⟨ws, ⟨x1, x2, x3, i', c, rfl, hi, hc, q1, q2, q3⟩, _, rfl⟩ hns hkp hC hS
    simp only [hi, Option.map_some, id, Option.some.injEq] at hdd
    subst hdd
    have mv : ∀ {v : Value} {d : Dat}, RdT s₁.heap v d → Rd S s.heap v d := fun q => q.mono fun b o _ e => ⟨hS b o (fun q => q) e, hkp b o e⟩
    have e : cellT (r i') = .tuple [.str c.1, .str c.2] := by rw [hc]; rfl
    show wpAny _ _ _ (fun y s' => Keeps s s' ∧ Rd S s'.heap y (.tuple [keyT i', cellT (r i')])) F0 s
    rw [e]
    exact helt C s m₀ x1 x2 x3 i' c S hns hC (mv q1) (mv q2) (mv q3)
  · intro h' tk ys D S hD hpl hall hkp
    rw [hlen, range_get id, List.map_id] at hall
    obtain ⟨xs, h1, h2⟩ := pairs_of (prog := prog) (w := w) hall
    exact fin h' tk ys D xs hD hpl h1 h2 hkp
end
theorem news_cons {h₀ h : Heap} {L a : Addr} {o : Obj} {nl : List (Addr × Obj)} (N : News h₀ L h nl) (e : h.get? a = some o) (hL : a ≠ L) (h0 : h₀.get? a = none) : News h₀ L h ((a, o) :: nl) := fun p hp => by
  rcases List.mem_cons.mp hp with rfl | hp
  · exact ⟨e, hL, h0⟩
  · exact N p hp
theorem tq_frame {h h' : Heap} {L : Addr} {m : Str → Option Value} (hn : h.Ns L m) (hk : ∀ b o, b ≠ L → h.get? b = some o → h'.get? b = some o) : Tq h h' :=
  Tq.of_but (X := (· = L)) (fun b o hb e => hk b o hb e) (fun b o vs n hb e _ hd => by subst hb; exact ns_data hn e hd)

theorem ev_cell {M : Model} {A : Around} {E : Value → Shared → Prop} {s : Shared} {env : Env} {Q : Value → Shared → Prop} {x : Str} {pos : Pos} {c : Addr} {v : Value} (hc : env.cells.lookup x = some c) (hv : s.heap.IsCell c (some v)) (h : Q v s) (hk : env.scope.kind = .function) (hx : env.kindOf x = some .cell)
    (hd : (x == ("__debug__" : Str)) = false := by decide) : wpAny M A (eval (.Name x pos) env) Q E s := wpAny_Name (wpAny_loadName_cell hk hx hc hv h) hd
local macro_rules | `(tactic| walk_at "eval Name") => `(tactic| ((have nsMx : NsM := (by assumption)); clear nsMx; k_dflt (refine' ev_cell ?hc ?hv ?_ ?hk ?hx; (case hk => rfl); (case hx => rfl); (case hc => rfl); (case hv => assumption))))
theorem for_block2 {prog : Program} {w : World} {A : Around} {T : Expr} {body : List Stmt} {env : Env} {s₂ : Shared} {I : Addr} {n : Nat} {W RD : Nat → Prop} {St : Nat → Heap → Prop}
    {Bd : Nat → (Str → Option Value) → (Str → Option Value) → Prop} {R : Result → Shared → Prop} (J : Nat → (Str → Option Value) → Heap → Prop) {m₂ : Str → Option Value}
    (It : Iter prog w A T (fun _ => env) I n W RD St Bd) (hRD : ¬ RD env.locals) (hst : St 0 s₂.heap) (hns : s₂.heap.Ns env.locals m₂) (hJ : J 0 m₂ s₂.heap)
    (Jmono : ∀ i m m₁ h h', St i h → h.Ns env.locals m₁ → (∀ b o, ¬ W b → b ≠ env.locals → h.get? b = some o → h'.get? b = some o) → J i m h → J i m h')
    (turn : ∀ i (s : Shared) m₀ m, i < n → J i m₀ s.heap → Bd i m₀ m → s.heap.Ns env.locals m → St (i + 1) s.heap → (∃ h' tk, s = { s₂ with heap := h', toks := tk }) →
      wpAny (model prog w) A (execs body env) (fun f s' => match f with
        | .next | .cont => ∃ h' tk m', s' = { s with heap := h', toks := tk } ∧ h'.Ns env.locals m' ∧ J (i + 1) m' h' ∧ (∀ b o, RD b → s.heap.get? b = some o → h'.get? b = some o)
        | .brk => False
        | .ret v => R (.ok (.ret v)) s') F0 s)
    (fin : ∀ h' tk m', h'.Ns env.locals m' → J n m' h' → R (.ok .next) { s₂ with heap := h', toks := tk }) :
    codeAny (model prog w) A (.forLoop T (.ref I) body [] env) R s₂ := by
  refine codeAny_forLoop_any (fun k s => ∃ h' tk i m', s = { s₂ with heap := h', toks := tk } ∧ i ≤ n ∧ k = n + 1 - i ∧ St i h' ∧ h'.Ns env.locals m' ∧ J i m' h') ?_ (n + 1)
    ⟨s₂.heap, s₂.toks, 0, m₂, rfl, Nat.zero_le _, rfl, hst, hns, hJ⟩
  rintro k s ⟨h', tk, i, m', rfl, hi, rfl, hst', hns', hJ'⟩
  by_cases hlt : i < n
  · refine wpAny_mono (It.item i _ env.locals m' (fun _ s₂' => ∃ h₂ tk₂ m₂, s₂' = { s₂ with heap := h₂, toks := tk₂ } ∧ St (i + 1) h₂ ∧ h₂.Ns env.locals m₂ ∧ Bd i m' m₂ ∧ J i m' h₂) hlt hst' hRD rfl hns'
      fun h₂ tk₂ m₂ st₂ hn₂ hB₂ hk₂ => ⟨h₂, tk₂, m₂, rfl, st₂, hn₂, hB₂, Jmono _ _ _ _ _ hst' hns' hk₂ hJ'⟩) ?_ F0_mono
    intro r s₁ h₁
    cases r with
    | none => exact h₁.elim
    | some v =>
      refine wpAny_mono h₁ (fun _ s₁' h₁' => wpAny_mono h₁' (fun _ s₃ h₃ => ?_) F0_mono) F0_mono
      obtain ⟨h₃, tk₃, m₃, rfl, st₃, hn₃, hB₃, hJ₃⟩ := h₃
      refine wpAny_mono (turn i _ m' m₃ hlt hJ₃ hB₃ hn₃ st₃ ⟨_, _, rfl⟩) ?_ F0_mono
      intro f s₄ h₄
      cases f with
      | next => obtain ⟨h₅, tk₅, m₅, rfl, hn₅, hJ₅, hk₅⟩ := h₄; exact ⟨n + 1 - (i + 1), by omega, h₅, tk₅, i + 1, m₅, rfl, hlt, rfl, It.frame _ _ _ st₃ hk₅, hn₅, hJ₅⟩
      | cont => obtain ⟨h₅, tk₅, m₅, rfl, hn₅, hJ₅, hk₅⟩ := h₄; exact ⟨n + 1 - (i + 1), by omega, h₅, tk₅, i + 1, m₅, rfl, hlt, rfl, It.frame _ _ _ st₃ hk₅, hn₅, hJ₅⟩
      | brk => exact h₄.elim
      | ret v => exact h₄
  · have hi' : i = n := by omega
    subst hi'
    have hnW : ¬ W env.locals := fun q => hRD (It.sub _ q)
    refine wpAny_mono (It.done { s₂ with heap := h', toks := tk } _ hst' fun h₂ tk₂ hk₂ => ?_) (fun _ _ x => x) F0_mono
    show wpAny _ _ (execs [] env) _ _ _
    refine wpAny_pure ?_
    exact fin h₂ tk₂ m' (hns'.at' fun o e => hk₂ _ o hnW e) (Jmono _ _ _ _ _ hst' hns' (fun b o hb _ e => hk₂ b o hb e) hJ')


section
variable {prog : Program} {w : World} {A : Around} {s : Shared}
theorem list_for2 {U : Nat → Prop} {l : Addr} {vs : List Value} {Q : Value → Shared → Prop} (hh : A.handled = none) (hl' : s.heap.IsList l vs.toArray)
    (hU : ∀ b, U b → b < s.heap.objs.size) (hUl : ¬ U l)
    (h : ∀ (I : Addr) (RD : Nat → Prop) (St : Nat → Heap → Prop) h', (∀ {x : Str} {px : Pos} {ev : Addr → Env}, (∀ C, (ev C).kindOf x = some .local) → (∀ C, (ev C).scope.kind = .function) → Iter prog w A (.Name x px) ev I vs.length (· ∈ [I]) RD St (BT [x] (fun i ws => ∃ y, vs[i]? = some y ∧ ws = [y]))) → (∀ i h, St i h → h.IsListIter I l i) → St 0 h' →
      (∀ b, U b → ¬ RD b) → (∀ b o, ¬ U b → s.heap.get? b = some o → RD b) → s.heap.get? I = none → Kp s.heap h' → Q (.ref I) { s with heap := h' }) :
    wpAny (model prog w) A (pyIter (.ref l)) Q F0 s := by
  have hne : l ≠ s.heap.objs.size := by obtain ⟨o, e, _⟩ := hl'; exact Nat.ne_of_lt (Heap.lt_size e)
  refine wpAny_pyIter_list hl' ?_
  have Wk := Walks.list (prog := prog) (w := w) hh s.heap.objs.size l hne vs.toArray
  rw [List.size_toArray] at Wk
  have It := fun {x : Str} {px : Pos} {ev : Addr → Env} (hl : ∀ C, (ev C).kindOf x = some .local) (hk : ∀ C, (ev C).scope.kind = .function) => (Iter.name (px := px) (S := fun b => b < s.heap.objs.size ∧ ¬ U b) (g := s.heap) Wk hl hk (fun b hb q => absurd (List.mem_singleton.mp q ▸ hb.1) (Nat.lt_irrefl _))).reBd (Bd' := BT [x] (fun i ws => ∃ y, vs[i]? = some y ∧ ws = [y]))
    (fun i m m' hB => by obtain ⟨v, hv, rfl⟩ := hB; exact ⟨[v], ⟨v, by simpa using hv, rfl⟩, rfl, rfl⟩)
  refine h _ _ _ _ It (fun i h st => st.1.1) ⟨⟨⟨_, Heap.get?_push_size _ rfl, rfl, rfl⟩, hl'.at fun o e => Heap.get?_push_of_some _ e⟩, fun b o hb e => Heap.get?_push_of_some _ e⟩ ?_ (fun b o hu e => .inl ⟨Heap.lt_size e, hu⟩) (fresh_none (Nat.le_refl _)) fun b o e => Heap.get?_push_of_some _ e
  intro b hb q
  rcases q with q | q
  · exact q.2 hb
  · simp at q; rcases q with rfl | rfl
    · exact Nat.lt_irrefl _ (hU _ hb)
    · exact hUl hb
theorem list_for_tup2 {xs : List Str} {U : Nat → Prop} {l : Addr} {vs : List Value} {B : Nat → List Value → Prop} {Q : Value → Shared → Prop} (hh : A.handled = none) (hl' : s.heap.IsList l vs.toArray)
    (its : ∀ i v, vs[i]? = some v → ∃ t ws, v = .ref t ∧ ¬ U t ∧ IsTup s.heap t ws.toArray ∧ ws.length = xs.length ∧ B i ws)
    (hU : ∀ b, U b → b < s.heap.objs.size) (hUl : ¬ U l)
    (h : ∀ (I : Addr) (RD : Nat → Prop) (St : Nat → Heap → Prop) h', (∀ {elts : List Expr} {k : Nat} {tp : Pos} {ev : Addr → Env}, Nms elts xs → (∀ C, ∀ x ∈ xs, (ev C).kindOf x = some .local) → (∀ C, (ev C).scope.kind = .function) → Iter prog w A (.Tuple elts k tp) ev I vs.length (· ∈ [I]) RD St (BT xs B)) → (∀ i h, St i h → h.IsListIter I l i) → St 0 h' →
      (∀ b, U b → ¬ RD b) → s.heap.get? I = none → Kp s.heap h' → Q (.ref I) { s with heap := h' }) :
    wpAny (model prog w) A (pyIter (.ref l)) Q F0 s := by
  have hne : l ≠ s.heap.objs.size := by obtain ⟨o, e, _⟩ := hl'; exact Nat.ne_of_lt (Heap.lt_size e)
  refine wpAny_pyIter_list hl' ?_
  have Wk := Walks.list (prog := prog) (w := w) hh s.heap.objs.size l hne vs.toArray
  rw [List.size_toArray] at Wk
  have It := fun {elts : List Expr} {k : Nat} {tp : Pos} {ev : Addr → Env} (hE : Nms elts xs) (hl : ∀ C, ∀ x ∈ xs, (ev C).kindOf x = some .local) (hk : ∀ C, (ev C).scope.kind = .function) => Iter.tup (k := k) (tp := tp) (S := fun b => b < s.heap.objs.size ∧ ¬ U b) (g := s.heap) (B := B) Wk hE hh hl hk (fun b hb q => absurd (List.mem_singleton.mp q ▸ hb.1) (Nat.lt_irrefl _)) (fun i T s Q st hQ => go_listiter st.1 hQ)
    (fun i v hi hv => by
      obtain ⟨t, ws, e, hut, ht, hlen, hB⟩ := its i v (by simpa using hv)
      exact ⟨t, ws, e, ⟨by obtain ⟨o, ho, _⟩ := ht; exact Heap.lt_size ho, hut⟩, ht, hlen, hB⟩)
  refine h _ _ _ _ It (fun i h st => st.1.1) ⟨⟨⟨_, Heap.get?_push_size _ rfl, rfl, rfl⟩, hl'.at fun o e => Heap.get?_push_of_some _ e⟩, fun b o hb e => Heap.get?_push_of_some _ e⟩ ?_ (fresh_none (Nat.le_refl _)) fun b o e => Heap.get?_push_of_some _ e
  intro b hb q
  rcases q with q | q
  · exact q.2 hb
  · simp at q; rcases q with rfl | rfl
    · exact Nat.lt_irrefl _ (hU _ hb)
    · exact hUl hb
end
noncomputable def deed (r1 r2 : Row) (i : Nat) : Option Dat := if eqB (r1 i) (r2 i) = true then none else some (dueT i (r2 i))

structure UJ (w : World) (hb : Heap) (c d1 d2 lf : Addr) (oc : Obj) (M0 : Str → Option Value) (r1 r2 : Row) (vs : List Value) (ns : List Nat) (i : Nat) (m : Str → Option Value) (h : Heap) : Prop where
  mm : ∀ v, (fun y => if y = ("key" : Str) then some v else m y) = (fun y => if y = ("key" : Str) then some v else M0 y)
  base : Kp hb h
  R1 : DictR PG w h d1 (fun i => cellT (r1 i)) (present r1)
  R2 : DictR PG w h d2 (fun i => cellT (r2 i)) (present r2)
  cell : h.get? c = some oc
  keys : All2 (fun v i => RdT h v (keyT i)) vs ns
  out : ∃ ys : List Value, h.PlainList lf ys.toArray ∧ ys.length ≤ i ∧ RdsT h ys ((ns.take i).filterMap (deed r1 r2))

section
variable {w : World} {hb : Heap} {c d1 d2 lf : Addr} {oc : Obj} {M0 : Str → Option Value} {r1 r2 : Row} {vs : List Value} {ns : List Nat} {i : Nat} {m : Str → Option Value} {h h' : Heap}
theorem UJ.mono (J : UJ w hb c d1 d2 lf oc M0 r1 r2 vs ns i m h) {X : Addr → Prop} (hk : ∀ b o, ¬ X b → h.get? b = some o → h'.get? b = some o) (hX : ∀ b o vs n, X b → h.get? b = some o → o.cls = .type "tuple" → o.data = .seq vs n → False)
    (xb : ∀ b o, hb.get? b = some o → ¬ X b) (x1 : ¬ X d1) (x2 : ¬ X d2) (xl : ¬ X lf) (xc : ¬ X c) : UJ w hb c d1 d2 lf oc M0 r1 r2 vs ns i m h' := by
  have T := Tq.of_but hk hX
  obtain ⟨ys, hl, hlen, hr⟩ := J.out
  exact ⟨J.mm, fun b o e => hk b o (xb b o e) (J.base b o e), J.R1.tq T fun o e => hk _ o x1 e, J.R2.tq T fun o e => hk _ o x2 e, hk _ _ xc J.cell, J.keys.mono fun _ _ q => Rd.tq T q,
    ys, hl.at fun o e => hk _ o xl e, hlen, hr.tq T⟩
theorem take_fm {α β : Type} (f : α → Option β) (l : List α) (i : Nat) (x : α) (h : l[i]? = some x) : (l.take (i + 1)).filterMap f = (l.take i).filterMap f ++ (f x).toList := by
  rw [List.take_add_one, h, List.filterMap_append]
  cases hf : f x <;> simp [hf]
theorem UJ.same (J : UJ w hb c d1 d2 lf oc M0 r1 r2 vs ns i m h) {L p : Addr} {m₁ : Str → Option Value} {v : Value} (hn : h.Ns L m₁) (hk : ∀ b o, b ≠ L → h.get? b = some o → h'.get? b = some o) (hp : ns[i]? = some p) (hd : deed r1 r2 p = none)
    (xb : hb.get? L = none) (x1 : d1 ≠ L) (x2 : d2 ≠ L) (xl : lf ≠ L) (xc : c ≠ L) : UJ w hb c d1 d2 lf oc M0 r1 r2 vs ns (i + 1) (fun y => if y = ("key" : Str) then some v else M0 y) h' := by
  have J' := J.mono (h' := h') (X := (· = L)) (fun b o q e => hk b o q e) (fun b o vs n q e _ hd => by subst q; exact ns_data hn e hd) (fun b o e q => by subst q; rw [xb] at e; cases e) x1 x2 xl xc
  obtain ⟨ys, hl, hlen, hr⟩ := J'.out
  refine ⟨fun v' => ?_, J'.base, J'.R1, J'.R2, J'.cell, J'.keys, ys, hl, by omega, ?_⟩
  · funext y; by_cases hy : y = ("key" : Str) <;> simp [hy]
  · rw [take_fm _ _ _ _ hp, hd]; simpa using hr
theorem UJ.app (J : UJ w hb c d1 d2 lf oc M0 r1 r2 vs ns i m h) {L p : Addr} {m₁ : Str → Option Value} {v x : Value} {d : Dat} {ys : List Value} (hl : h.PlainList lf ys.toArray) (hn : h.Ns L m₁) (hk : ∀ b o, b ≠ L → b ≠ lf → h.get? b = some o → h'.get? b = some o) (hp : ns[i]? = some p) (hd : deed r1 r2 p = some d)
    (xb : hb.get? L = none) (xb2 : hb.get? lf = none) (x1 : d1 ≠ L) (x2 : d2 ≠ L) (xc : c ≠ L) (z1 : d1 ≠ lf) (z2 : d2 ≠ lf) (zc : c ≠ lf) (hl' : h'.PlainList lf (ys ++ [x]).toArray) (hx : RdT h' x d) : UJ w hb c d1 d2 lf oc M0 r1 r2 vs ns (i + 1) (fun y => if y = ("key" : Str) then some v else M0 y) h' := by
  have T : Tq h h' := Tq.of_but (X := fun b => b = L ∨ b = lf) (fun b o q e => hk b o (fun z => q (.inl z)) (fun z => q (.inr z)) e) (fun b o vs n q e hc hd => by
    rcases q with q | q
    · subst q; exact ns_data hn e hd
    · subst q; obtain ⟨k, e'⟩ := hl; rw [e] at e'; cases e'; simp at hc)
  obtain ⟨ys', hl2, hlen, hr⟩ := J.out
  obtain ⟨k1, e1⟩ := hl
  obtain ⟨k2, e2⟩ := hl2
  rw [e1] at e2
  have : ys = ys' := by
    have := congrArg (fun o => match o with | some (o : Obj) => (match o.data with | .seq vs _ => vs.toList | _ => []) | none => []) e2
    simpa using this
  subst this
  refine ⟨fun v' => ?_, fun b o e => hk b o (fun q => by subst q; rw [xb] at e; cases e) (fun q => by subst q; rw [xb2] at e; cases e) (J.base b o e), J.R1.tq T fun o e => hk _ o x1 z1 e, J.R2.tq T fun o e => hk _ o x2 z2 e, hk _ _ xc zc J.cell, J.keys.mono fun _ _ q => Rd.tq T q,
    _, hl', by rw [List.length_append]; simp; omega, ?_⟩
  · funext y; by_cases hy : y = ("key" : Str) <;> simp [hy]
  · rw [take_fm _ _ _ _ hp, hd]; exact (hr.tq T).append (.cons hx .nil)
end
section
variable {prog : Program} {w : World} {A : Around} {s : Shared} {E : Value → Shared → Prop}
theorem dict_getm {d : Addr} {es : Array DictEntry} {ep : Nat} {name : Str} {id : String} {pl : Sem Bool} {Q : Value × List Value → Shared → Prop} (slot : Slot "dict" name id) (hty : typeOf (.builtin id) = pure (.type "method_descriptor"))
    (ho : s.heap.get? d = some (dobj es ep)) (h : Q (.builtin id, [.ref d]) s) : wpAny (model prog w) A (getMethod (.ref d) name pl) Q E s :=
  getMethod_builtin ⟨_, ho, rfl⟩ PySem.F.plainAttrs_dict slot hty (fun a e => by cases e; exact ⟨_, ho, rfl⟩) h
theorem dict_sub {d a : Addr} {k : List Str} {xs : List (List Str × Addr × Value)} {p : Addr × Value} {value slice : Expr} {Q : Value → Shared → Prop} (hu : (kt prog w).room A.in1) (hkey : (kt prog w).is s.heap k a) (hm : s.heap.DictOfH (kt prog w) d xs) (hp : atKey xs k = some p)
    (h : Q p.2 { s with toks := s.toks + (kt prog w).draws k }) (hs : subscripted slice false (.ref d) (.ref a) = operate [.ref d, .ref a] (getItem (.ref d) (.ref a)) := by with_unfolding_all rfl) :
    wpAny (model prog w) A (subscriptTail value slice (.ref d) (.ref a)) Q E s :=
  tail_any hm.typeIs slot_dict_getitem.lookup (wpAny_getItem_heap hu hkey hm hp h) hs
theorem dict_get1 {d a : Addr} {k : List Str} {xs : List (List Str × Addr × Value)} {Q : Value → Shared → Prop} (hu : (kt prog w).room A.in1) (hkey : (kt prog w).is s.heap k a) (hd : (d == sysModules) = false) (hm : s.heap.DictOfH (kt prog w) d xs)
    (h : Q (((atKey xs k).map (·.2)).getD .none) { s with toks := s.toks + (kt prog w).draws k }) : wpAny (model prog w) A (call (.builtin "dict.get") [.ref d, .ref a]) Q E s := by
  refine wpAny_call_entry PySem.F.slot_dict_get hm.typeIs PySem.F.entry_dict_get ?_ (PySem.F.args_dict_get_2 _ _)
  show wpAny _ _ (dictGet d (.ref a) >>= _) _ _ s
  refine wpAny_bind (wpAny_dictGet_heap hu hkey hm ?_)
  cases hf : (atKey xs k).map (·.2) with
  | some v =>
    rw [hf] at h
    exact wpAny_pure ⟨_, rfl, h⟩
  | none =>
    rw [hf] at h
    show wpAny _ _ (Builtin.Dict.missed d (.ref a) >>= _) _ _ _
    exact wpAny_bind (wpAny_missed_other hd (wpAny_pure ⟨_, rfl, h⟩))
end
theorem DictR.get {prog : Program} {w : World} {h : Heap} {d : Addr} {r : Row} (R : DictR prog w h d (fun i => cellT (r i)) (present r)) {i : Nat} (hi : i < 5) :
    ∃ xs es ep, h.get? d = some (dobj es ep) ∧ h.DictOfH (kt prog w) d xs ∧ RdT h (((atKey xs (keyL i)).map (·.2)).getD .none) (cellT (r i)) := by
  obtain ⟨xs, hm, hk, hat⟩ := R.at present_lt hi
  obtain ⟨es, ep, ho, _⟩ := dictOfH_raw hm
  refine ⟨xs, es, ep, ho, hm, ?_⟩
  rcases hat with ⟨hin, p, e, rd⟩ | ⟨hin, e⟩
  · rw [e]; exact rd
  · rw [e]
    have : r i = none := by
      cases h : r i with
      | none => rfl
      | some c => exact absurd (List.mem_filter.mpr ⟨List.mem_range.mpr hi, by rw [h]; rfl⟩) hin
    rw [this]; exact .none
theorem mem_present {r : Row} {i : Nat} (hi : i < 5) : i ∈ present r ↔ r i ≠ none := by
  unfold present
  rw [List.mem_filter, List.mem_range]
  cases h : r i <;> simp [hi]
local macro_rules | `(tactic| walk_at "subscriptTail") => `(tactic| ((with_reducible show wpAny _ _ (subscriptTail _ _ (Value.ref _) (Value.int _ _)) _ _ _); k_dflt (refine' item_tupleT ?t ?a ?b ?c ?d ?_; (case t => assumption); (case a => decide); (case b => decide); (case c => rfl); (case d => rfl))))
local macro_rules | `(tactic| walk_at "subscriptTail") => `(tactic| ((with_reducible show wpAny _ _ (subscriptTail _ _ (Value.ref _) (Value.ref _)) _ _ _); k_dflt (refine' dict_sub ?hu ?hkey ?hm ?hp ?_; (case hkey => assumption); (case hm => assumption); (case hp => assumption); (case hu => (show Around.units _ + 1 < cLine; rw [units_deeper]; omega)))))
local macro_rules | `(tactic| walk_at "getMethod ref") => `(tactic| ((with_reducible show wpAny _ _ (getMethod (Value.ref _) (PySem.Str.ofString "get") _) _ _ _); refine dict_getm PySem.F.slot_dict_get PySem.F.type_dict_get (by assumption) ?_))
local macro_rules | `(tactic| walk_at "getMethod ref") => `(tactic| ((with_reducible show wpAny _ _ (getMethod (Value.ref _) (PySem.Str.ofString "pop") _) _ _ _); refine dict_getm PySem.F.slot_dict_pop PySem.F.type_dict_pop (by assumption) ?_))
local macro_rules | `(tactic| walk_at "getMethod ref") => `(tactic| ((with_reducible show wpAny _ _ (getMethod (Value.ref _) (PySem.Str.ofString "update") _) _ _ _); refine dict_getm PySem.F.slot_dict_update PySem.F.type_dict_update (by assumption) ?_))
theorem deed_none {r1 r2 : Row} {i : Nat} (h : r1 i = r2 i) : deed r1 r2 i = none := by unfold deed; rw [if_pos (eqB_true.mpr h)]
theorem deed_some {r1 r2 : Row} {i : Nat} (h : r1 i ≠ r2 i) : deed r1 r2 i = some (dueT i (r2 i)) := by unfold deed; rw [if_neg (by rw [eqB_true]; exact h)]
theorem form_inv {h : Heap} {v : Value} {kd wo : Str} {r : Row} (hv : RdT h v (formD kd wo r)) : ∃ a v0 v1 v2 t v4 vs, v = .ref a ∧ IsTup h a [v0, v1, v2, .ref t, v4].toArray ∧ IsTup h t vs.toArray ∧ RdsT h vs (attrs r) ∧ RdT h v2 (.str wo) := by
  obtain ⟨a, ws, rfl, _, ht, hw⟩ := hv.tup_inv
  obtain ⟨v0, ws, rfl, q0, hw⟩ := hw.cons_inv
  obtain ⟨v1, ws, rfl, q1, hw⟩ := hw.cons_inv
  obtain ⟨v2, ws, rfl, q2, hw⟩ := hw.cons_inv
  obtain ⟨v3, ws, rfl, q3, hw⟩ := hw.cons_inv
  obtain ⟨v4, ws, rfl, q4, hw⟩ := hw.cons_inv
  obtain rfl := hw.nil_inv
  obtain ⟨t, vs, rfl, _, ht3, hr⟩ := q3.tup_inv
  exact ⟨a, v0, v1, v2, t, v4, vs, rfl, ht, ht3, hr, q2⟩
theorem All2.append {α β : Type} {R : α → β → Prop} : ∀ {as : List α} {bs : List β} {cs : List α} {ds : List β}, All2 R as bs → All2 R cs ds → All2 R (as ++ cs) (bs ++ ds)
  | _, _, _, _, .nil, k => k
  | _, _, _, _, .cons a r, k => .cons a (r.append k)
theorem range_getB {α β : Type} (f : α → Option β) : ∀ (xs : List α), (List.range xs.length).filterMap (fun j => (xs[j]?).bind f) = xs.filterMap f
  | [] => rfl
  | a :: xs => by
    have ih := range_getB f xs
    rw [List.length_cons, List.range_succ_eq_map, List.filterMap_cons, List.filterMap_cons]
    simp only [List.getElem?_cons_zero, Option.bind_some, List.filterMap_map]
    have e : List.filterMap ((fun j => ((a :: xs)[j]?).bind f) ∘ Nat.succ) (List.range xs.length) = List.filterMap f xs := by simpa [Function.comp_def] using ih
    rw [e]
def extra (r1 r2 : Row) : List Nat := (present r2).filterMap fun i => if i ∈ present r1 then none else some i
theorem filter_fm {α β : Type} (p : α → Bool) (f : α → Option β) : ∀ (l : List α), (∀ x ∈ l, p x = false → f x = none) → (l.filter p).filterMap f = l.filterMap f
  | [], _ => rfl
  | a :: l, h => by
    have ih := filter_fm p f l fun x hx => h x (List.mem_cons_of_mem _ hx)
    rw [List.filter_cons]
    cases hp : p a with
    | true => simp only [if_true, List.filterMap_cons, ih]
    | false => rw [List.filterMap_cons, h a (List.mem_cons_self ..) hp]; simpa using ih
theorem deeds_eq (r1 r2 : Row) : (sortN (present r1 ++ extra r1 r2)).filterMap (deed r1 r2) = dueD r1 r2 := by
  unfold sortN dueD diffs
  rw [filter_fm, List.map_filterMap]
  · congr 1
    funext i
    unfold deed
    by_cases h : eqB (r1 i) (r2 i) = true
    · rw [if_pos h, if_pos h]; rfl
    · rw [if_neg h, if_neg h]; rfl
  · intro i hi hc
    have hi5 := List.mem_range.mp hi
    have hn : i ∉ present r1 ++ extra r1 r2 := by simpa using hc
    have h1 : i ∉ present r1 := fun q => hn (List.mem_append.mpr (.inl q))
    have h2 : i ∉ present r2 := fun q => hn (List.mem_append.mpr (.inr (List.mem_filterMap.mpr ⟨i, q, by rw [if_neg h1]⟩)))
    have e1 : r1 i = none := Classical.byContradiction fun q => h1 ((mem_present hi5).mpr q)
    have e2 : r2 i = none := Classical.byContradiction fun q => h2 ((mem_present hi5).mpr q)
    exact deed_none (e1.trans e2.symm)
theorem DictR.ne_list {prog : Program} {w : World} {h : Heap} {d l : Addr} {g : Nat → Dat} {ps : List Nat} {vs : Array Value} (R : DictR prog w h d g ps) (hl : h.PlainList l vs) : d ≠ l := by
  rintro rfl
  obtain ⟨xs, ⟨o, es, ep, ho, hx, hd, _⟩, _⟩ := R
  obtain ⟨n, e⟩ := hl
  rw [ho] at e; cases e; cases hd
section
variable {w : World} {mg mb : Str → Option Value} {A : Around} {s : Shared} {Q : Value → Shared → Prop}
set_option maxHeartbeats 4000000 in
theorem unlike_call (hh : A.handled = none) (hdp : A.depth + 8 < recursionLimit) (hu : A.units + 200 < cLine) (G : G0 w mg mb s.heap) {va vb : Value} {kd wo kd2 wo2 : Str} {r1 r2 : Row} (ra : RdT s.heap va (formD kd wo r1)) (rb : RdT s.heap vb (formD kd2 wo2 r2)) (ok1 : RowOk r1) (ok2 : RowOk r2)
    (hQ : ∀ h' tk D ys, Kp s.heap h' → s.heap.get? D = none → h'.PlainList D ys.toArray → RdsT h' ys (dueD r1 r2) → Q (.ref D) { s with heap := h', toks := tk }) :
    wpAny (model PySem.Challenge.rw_xm0645_01.row.prog w) A (call (.ref 19) [va, vb]) Q F0 s := by
  obtain ⟨a, x0, x1, x2, t, x4, vs, rfl, hta, htr, hra, _⟩ := form_inv ra
  obtain ⟨b, y0, y1, y2, u, y4, us, rfl, htb, hur, hrb, _⟩ := form_inv rb
  (refine wpAny_call ?_; refine call_cell1 "first" (by omega) ((G).K 19 _ rfl) rfl (G).T.nolimit (codeRec_of (G).K rfl) rfl (locs rfl) (fun n => rfl) rfl ?_; intro h₁ tk₁ oc F N hoc; have X := (G).K; have T := (G).T)
  ((repeat' (first | (k_unfold; (try dsimp only)) | (k_end; fail) | ((fail_if_success (with_reducible first | intro _ | refine st_and ?_ | refine st_ex ?_ | refine st_ex1 ?_ | refine st_eq ?_ | refine st_cr ?_ | refine st_td ?_ | refine st_tl ?_ | refine st_tt ?_ | refine st_tz ?_ | refine st_bs ?_ | refine st_ba ?_ | refine st_bp ?_ | refine st_bu ?_ | refine st_bg ?_ | refine st_sn ?_ | refine st_fo ?_ | refine st_al ?_ | refine st_ad ?_ | refine st_el ?_ | refine st_ed ?_ | refine st_cNq ?_ | refine st_cIn ?_ | refine st_cNn ?_)); first | walk1 | (dsimp only; (fail_if_success (with_reducible first | intro _ | refine st_and ?_ | refine st_ex ?_ | refine st_ex1 ?_ | refine st_eq ?_ | refine st_cr ?_ | refine st_td ?_ | refine st_tl ?_ | refine st_tt ?_ | refine st_tz ?_ | refine st_bs ?_ | refine st_ba ?_ | refine st_bp ?_ | refine st_bu ?_ | refine st_bg ?_ | refine st_sn ?_ | refine st_fo ?_ | refine st_al ?_ | refine st_ad ?_ | refine st_el ?_ | refine st_ed ?_ | refine st_cNq ?_ | refine st_cIn ?_ | refine st_cNn ?_)); walk1) | (leave1; walk_say "STEP leave1"; try dsimp only)) | fail "no step")); (try k_sweep); ((try (with_reducible rename Fr _ _ _ _ => F)); (try (with_reducible rename News _ _ _ _ => N))))
  ((try (with_reducible show wpAny _ _ _ _ _ _)); (try dsimp only))
  k_fold
  refine anyE (lc_val (hclos := closureFor_none (by decide)) ?_ (by decide) rfl (by decide))
  ((repeat' (first | (k_unfold; (try dsimp only)) | (k_end; fail) | ((fail_if_success (with_reducible first | intro _ | refine st_and ?_ | refine st_ex ?_ | refine st_ex1 ?_ | refine st_eq ?_ | refine st_cr ?_ | refine st_td ?_ | refine st_tl ?_ | refine st_tt ?_ | refine st_tz ?_ | refine st_bs ?_ | refine st_ba ?_ | refine st_bp ?_ | refine st_bu ?_ | refine st_bg ?_ | refine st_sn ?_ | refine st_fo ?_ | refine st_al ?_ | refine st_ad ?_ | refine st_el ?_ | refine st_ed ?_ | refine st_cNq ?_ | refine st_cIn ?_ | refine st_cNn ?_)); first | walk1 | (dsimp only; (fail_if_success (with_reducible first | intro _ | refine st_and ?_ | refine st_ex ?_ | refine st_ex1 ?_ | refine st_eq ?_ | refine st_cr ?_ | refine st_td ?_ | refine st_tl ?_ | refine st_tt ?_ | refine st_tz ?_ | refine st_bs ?_ | refine st_ba ?_ | refine st_bp ?_ | refine st_bu ?_ | refine st_bg ?_ | refine st_sn ?_ | refine st_fo ?_ | refine st_al ?_ | refine st_ad ?_ | refine st_el ?_ | refine st_ed ?_ | refine st_cNq ?_ | refine st_cIn ?_ | refine st_cNn ?_)); walk1) | (leave1; walk_say "STEP leave1"; try dsimp only)) | fail "no step")); (try k_sweep); ((try (with_reducible rename Fr _ _ _ _ => F)); (try (with_reducible rename News _ _ _ _ => N))))
  refine rows_pack hh (htr.keeps F.keep) (hra.keep F.keep) ?hl rfl ?helt ?_
  case hl => intro C x hx; simp at hx; rcases hx with rfl | rfl | rfl <;> rfl
  case helt =>
    intro C s' m₀ z1 z2 z3 i c S hns hC q1 q2 q3
    have nsM : NsM := ⟨⟩
    ((repeat' (first | (k_unfold; (try dsimp only)) | (k_end; fail) | ((fail_if_success (with_reducible first | intro _ | refine st_and ?_ | refine st_ex ?_ | refine st_ex1 ?_ | refine st_eq ?_ | refine st_cr ?_ | refine st_td ?_ | refine st_tl ?_ | refine st_tt ?_ | refine st_tz ?_ | refine st_bs ?_ | refine st_ba ?_ | refine st_bp ?_ | refine st_bu ?_ | refine st_bg ?_ | refine st_sn ?_ | refine st_fo ?_ | refine st_al ?_ | refine st_ad ?_ | refine st_el ?_ | refine st_ed ?_ | refine st_cNq ?_ | refine st_cIn ?_ | refine st_cNn ?_)); first | walk1 | (dsimp only; (fail_if_success (with_reducible first | intro _ | refine st_and ?_ | refine st_ex ?_ | refine st_ex1 ?_ | refine st_eq ?_ | refine st_cr ?_ | refine st_td ?_ | refine st_tl ?_ | refine st_tt ?_ | refine st_tz ?_ | refine st_bs ?_ | refine st_ba ?_ | refine st_bp ?_ | refine st_bu ?_ | refine st_bg ?_ | refine st_sn ?_ | refine st_fo ?_ | refine st_al ?_ | refine st_ad ?_ | refine st_el ?_ | refine st_ed ?_ | refine st_cNq ?_ | refine st_cIn ?_ | refine st_cNn ?_)); walk1) | (leave1; walk_say "STEP leave1"; try dsimp only)) | fail "no step")); (try k_sweep); ((try (with_reducible rename Fr _ _ _ _ => F)); (try (with_reducible rename News _ _ _ _ => N))))
    exact elt_tup2 hns hC q1 (.cons q2 (.cons q3 .nil))
  intro h2 tk2 ys D xs hD hpl hxs hkv kp
  have F := F.keeps kp
  have N : News s.heap s.heap.objs.size h2 _ := fun p hp => ⟨kp _ _ (N p hp).1, (N p hp).2⟩
  ((repeat' (first | (k_unfold; (try dsimp only)) | (k_end; fail) | ((fail_if_success (with_reducible first | intro _ | refine st_and ?_ | refine st_ex ?_ | refine st_ex1 ?_ | refine st_eq ?_ | refine st_cr ?_ | refine st_td ?_ | refine st_tl ?_ | refine st_tt ?_ | refine st_tz ?_ | refine st_bs ?_ | refine st_ba ?_ | refine st_bp ?_ | refine st_bu ?_ | refine st_bg ?_ | refine st_sn ?_ | refine st_fo ?_ | refine st_al ?_ | refine st_ad ?_ | refine st_el ?_ | refine st_ed ?_ | refine st_cNq ?_ | refine st_cIn ?_ | refine st_cNn ?_)); first | walk1 | (dsimp only; (fail_if_success (with_reducible first | intro _ | refine st_and ?_ | refine st_ex ?_ | refine st_ex1 ?_ | refine st_eq ?_ | refine st_cr ?_ | refine st_td ?_ | refine st_tl ?_ | refine st_tt ?_ | refine st_tz ?_ | refine st_bs ?_ | refine st_ba ?_ | refine st_bp ?_ | refine st_bu ?_ | refine st_bg ?_ | refine st_sn ?_ | refine st_fo ?_ | refine st_al ?_ | refine st_ad ?_ | refine st_el ?_ | refine st_ed ?_ | refine st_cNq ?_ | refine st_cIn ?_ | refine st_cNn ?_)); walk1) | (leave1; walk_say "STEP leave1"; try dsimp only)) | fail "no step")); (try k_sweep); ((try (with_reducible rename Fr _ _ _ _ => F)); (try (with_reducible rename News _ _ _ _ => N))))
  have hkeys1 : (xs.map (·.1)).Nodup := by rw [keys_fst hkv]; exact keyL_nodup _ (present_nodup r1) present_lt
  have hn5 := nodup_len 5 _ (present_nodup r1) present_lt
  have hn5' := nodup_len 5 _ (present_nodup r2) present_lt
  have hsz1 : ys.length = (present r1).length := hxs.length.trans hkv.length
  have hmod := modules_low G.T.nolimit
  have hc2 : h2.get? (s.heap.objs.size + 1) = some oc := N.get (List.Mem.head _)
  refine anyE (dict_pairs hpl hxs hkeys1 (by rw [List.size_toArray, sizeLine_eq]; omega) hh (by rw [units_deeper]; omega) ?_)
  intro h3 tk3 d1 kp3 hd1 hm1
  have R1 : DictR PG w h3 d1 (fun i => cellT (r1 i)) (present r1) := ⟨xs, hm1, hkv.mono fun _ _ q => q.keep kp3⟩
  have F := F.keeps kp3
  have hc3 : h3.get? (s.heap.objs.size + 1) = some oc := kp3 _ _ hc2
  have hlt2 : s.heap.objs.size + 1 < d1 := by rw [hd1]; exact Heap.lt_size hc2
  clear kp3 hm1 hkv hxs N
  have N : News s.heap s.heap.objs.size h3 [] := news0 F
  ((repeat' (first | (k_unfold; (try dsimp only)) | (k_end; fail) | ((fail_if_success (with_reducible first | intro _ | refine st_and ?_ | refine st_ex ?_ | refine st_ex1 ?_ | refine st_eq ?_ | refine st_cr ?_ | refine st_td ?_ | refine st_tl ?_ | refine st_tt ?_ | refine st_tz ?_ | refine st_bs ?_ | refine st_ba ?_ | refine st_bp ?_ | refine st_bu ?_ | refine st_bg ?_ | refine st_sn ?_ | refine st_fo ?_ | refine st_al ?_ | refine st_ad ?_ | refine st_el ?_ | refine st_ed ?_ | refine st_cNq ?_ | refine st_cIn ?_ | refine st_cNn ?_)); first | walk1 | (dsimp only; (fail_if_success (with_reducible first | intro _ | refine st_and ?_ | refine st_ex ?_ | refine st_ex1 ?_ | refine st_eq ?_ | refine st_cr ?_ | refine st_td ?_ | refine st_tl ?_ | refine st_tt ?_ | refine st_tz ?_ | refine st_bs ?_ | refine st_ba ?_ | refine st_bp ?_ | refine st_bu ?_ | refine st_bg ?_ | refine st_sn ?_ | refine st_fo ?_ | refine st_al ?_ | refine st_ad ?_ | refine st_el ?_ | refine st_ed ?_ | refine st_cNq ?_ | refine st_cIn ?_ | refine st_cNn ?_)); walk1) | (leave1; walk_say "STEP leave1"; try dsimp only)) | fail "no step")); (try k_sweep); ((try (with_reducible rename Fr _ _ _ _ => F)); (try (with_reducible rename News _ _ _ _ => N))))
  refine wpAny_storeName_cell rfl rfl rfl ⟨oc, hc3, hoc⟩ fun h4 hv4 hs4 => ?_
  obtain ⟨oc4, hc4, hoc4⟩ := hv4
  have hk4 : ∀ b o, b ≠ s.heap.objs.size + 1 → h3.get? b = some o → h4.get? b = some o := fun b o hb e => hs4.extBut b o hb e
  have T4 : Tq h3 h4 := Tq.of_but (X := (· = s.heap.objs.size + 1)) (fun b o hb e => hk4 b o hb e) (fun b o vs n hb e _ hd => by subst hb; rw [hc3] at e; cases e; rw [hoc] at hd; cases hd)
  have R1 := R1.tq T4 fun o e => hk4 _ o (Nat.ne_of_gt hlt2) e
  have hcn : s.heap.get? (s.heap.objs.size + 1) = none := fresh_none (Nat.le_succ _)
  have F := but_Fr' F (Nat.succ_ne_self _) hcn hk4
  clear N T4
  have N : News s.heap s.heap.objs.size h4 [] := news0 F
  ((repeat' (first | (k_unfold; (try dsimp only)) | (k_end; fail) | ((fail_if_success (with_reducible first | intro _ | refine st_and ?_ | refine st_ex ?_ | refine st_ex1 ?_ | refine st_eq ?_ | refine st_cr ?_ | refine st_td ?_ | refine st_tl ?_ | refine st_tt ?_ | refine st_tz ?_ | refine st_bs ?_ | refine st_ba ?_ | refine st_bp ?_ | refine st_bu ?_ | refine st_bg ?_ | refine st_sn ?_ | refine st_fo ?_ | refine st_al ?_ | refine st_ad ?_ | refine st_el ?_ | refine st_ed ?_ | refine st_cNq ?_ | refine st_cIn ?_ | refine st_cNn ?_)); first | walk1 | (dsimp only; (fail_if_success (with_reducible first | intro _ | refine st_and ?_ | refine st_ex ?_ | refine st_ex1 ?_ | refine st_eq ?_ | refine st_cr ?_ | refine st_td ?_ | refine st_tl ?_ | refine st_tt ?_ | refine st_tz ?_ | refine st_bs ?_ | refine st_ba ?_ | refine st_bp ?_ | refine st_bu ?_ | refine st_bg ?_ | refine st_sn ?_ | refine st_fo ?_ | refine st_al ?_ | refine st_ad ?_ | refine st_el ?_ | refine st_ed ?_ | refine st_cNq ?_ | refine st_cIn ?_ | refine st_cNn ?_)); walk1) | (leave1; walk_say "STEP leave1"; try dsimp only)) | fail "no step")); (try k_sweep); ((try (with_reducible rename Fr _ _ _ _ => F)); (try (with_reducible rename News _ _ _ _ => N))))
  ((try (with_reducible show wpAny _ _ _ _ _ _)); (try dsimp only))
  k_fold
  refine anyE (lc_val (hclos := closureFor_none (by decide)) ?_ (by decide) rfl (by decide))
  ((repeat' (first | (k_unfold; (try dsimp only)) | (k_end; fail) | ((fail_if_success (with_reducible first | intro _ | refine st_and ?_ | refine st_ex ?_ | refine st_ex1 ?_ | refine st_eq ?_ | refine st_cr ?_ | refine st_td ?_ | refine st_tl ?_ | refine st_tt ?_ | refine st_tz ?_ | refine st_bs ?_ | refine st_ba ?_ | refine st_bp ?_ | refine st_bu ?_ | refine st_bg ?_ | refine st_sn ?_ | refine st_fo ?_ | refine st_al ?_ | refine st_ad ?_ | refine st_el ?_ | refine st_ed ?_ | refine st_cNq ?_ | refine st_cIn ?_ | refine st_cNn ?_)); first | walk1 | (dsimp only; (fail_if_success (with_reducible first | intro _ | refine st_and ?_ | refine st_ex ?_ | refine st_ex1 ?_ | refine st_eq ?_ | refine st_cr ?_ | refine st_td ?_ | refine st_tl ?_ | refine st_tt ?_ | refine st_tz ?_ | refine st_bs ?_ | refine st_ba ?_ | refine st_bp ?_ | refine st_bu ?_ | refine st_bg ?_ | refine st_sn ?_ | refine st_fo ?_ | refine st_al ?_ | refine st_ad ?_ | refine st_el ?_ | refine st_ed ?_ | refine st_cNq ?_ | refine st_cIn ?_ | refine st_cNn ?_)); walk1) | (leave1; walk_say "STEP leave1"; try dsimp only)) | fail "no step")); (try k_sweep); ((try (with_reducible rename Fr _ _ _ _ => F)); (try (with_reducible rename News _ _ _ _ => N))))
  refine rows_pack hh (hur.keeps F.keep) (hrb.keep F.keep) ?hl rfl ?helt ?_
  case hl => intro C x hx; simp at hx; rcases hx with rfl | rfl | rfl <;> rfl
  case helt =>
    intro C s' m₀ z1 z2 z3 i c S hns hC q1 q2 q3
    have nsM : NsM := ⟨⟩
    ((repeat' (first | (k_unfold; (try dsimp only)) | (k_end; fail) | ((fail_if_success (with_reducible first | intro _ | refine st_and ?_ | refine st_ex ?_ | refine st_ex1 ?_ | refine st_eq ?_ | refine st_cr ?_ | refine st_td ?_ | refine st_tl ?_ | refine st_tt ?_ | refine st_tz ?_ | refine st_bs ?_ | refine st_ba ?_ | refine st_bp ?_ | refine st_bu ?_ | refine st_bg ?_ | refine st_sn ?_ | refine st_fo ?_ | refine st_al ?_ | refine st_ad ?_ | refine st_el ?_ | refine st_ed ?_ | refine st_cNq ?_ | refine st_cIn ?_ | refine st_cNn ?_)); first | walk1 | (dsimp only; (fail_if_success (with_reducible first | intro _ | refine st_and ?_ | refine st_ex ?_ | refine st_ex1 ?_ | refine st_eq ?_ | refine st_cr ?_ | refine st_td ?_ | refine st_tl ?_ | refine st_tt ?_ | refine st_tz ?_ | refine st_bs ?_ | refine st_ba ?_ | refine st_bp ?_ | refine st_bu ?_ | refine st_bg ?_ | refine st_sn ?_ | refine st_fo ?_ | refine st_al ?_ | refine st_ad ?_ | refine st_el ?_ | refine st_ed ?_ | refine st_cNq ?_ | refine st_cIn ?_ | refine st_cNn ?_)); walk1) | (leave1; walk_say "STEP leave1"; try dsimp only)) | fail "no step")); (try k_sweep); ((try (with_reducible rename Fr _ _ _ _ => F)); (try (with_reducible rename News _ _ _ _ => N))))
    exact elt_tup2 hns hC q1 (.cons q2 (.cons q3 .nil))
  intro h5 tk5 ys2 D2 xs2 hD2 hpl2 hxs2 hkv2 kp5
  have F := F.keeps kp5
  clear N
  have N : News s.heap s.heap.objs.size h5 [] := news0 F
  ((repeat' (first | (k_unfold; (try dsimp only)) | (k_end; fail) | ((fail_if_success (with_reducible first | intro _ | refine st_and ?_ | refine st_ex ?_ | refine st_ex1 ?_ | refine st_eq ?_ | refine st_cr ?_ | refine st_td ?_ | refine st_tl ?_ | refine st_tt ?_ | refine st_tz ?_ | refine st_bs ?_ | refine st_ba ?_ | refine st_bp ?_ | refine st_bu ?_ | refine st_bg ?_ | refine st_sn ?_ | refine st_fo ?_ | refine st_al ?_ | refine st_ad ?_ | refine st_el ?_ | refine st_ed ?_ | refine st_cNq ?_ | refine st_cIn ?_ | refine st_cNn ?_)); first | walk1 | (dsimp only; (fail_if_success (with_reducible first | intro _ | refine st_and ?_ | refine st_ex ?_ | refine st_ex1 ?_ | refine st_eq ?_ | refine st_cr ?_ | refine st_td ?_ | refine st_tl ?_ | refine st_tt ?_ | refine st_tz ?_ | refine st_bs ?_ | refine st_ba ?_ | refine st_bp ?_ | refine st_bu ?_ | refine st_bg ?_ | refine st_sn ?_ | refine st_fo ?_ | refine st_al ?_ | refine st_ad ?_ | refine st_el ?_ | refine st_ed ?_ | refine st_cNq ?_ | refine st_cIn ?_ | refine st_cNn ?_)); walk1) | (leave1; walk_say "STEP leave1"; try dsimp only)) | fail "no step")); (try k_sweep); ((try (with_reducible rename Fr _ _ _ _ => F)); (try (with_reducible rename News _ _ _ _ => N))))
  have hkeys2 : (xs2.map (·.1)).Nodup := by rw [keys_fst hkv2]; exact keyL_nodup _ (present_nodup r2) present_lt
  have hsz2 : ys2.length = (present r2).length := hxs2.length.trans hkv2.length
  have hc5 : h5.get? (s.heap.objs.size + 1) = some oc4 := kp5 _ _ hc4
  refine anyE (dict_pairs hpl2 hxs2 hkeys2 (by rw [List.size_toArray, sizeLine_eq]; omega) hh (by rw [units_deeper]; omega) ?_)
  intro h6 tk6 d2 kp6 hd2 hm2
  have R2 : DictR PG w h6 d2 (fun i => cellT (r2 i)) (present r2) := ⟨xs2, hm2, hkv2.mono fun _ _ q => q.keep kp6⟩
  have R1 := (R1.keep kp5).keep kp6
  have hc6 : h6.get? (s.heap.objs.size + 1) = some oc4 := kp6 _ _ hc5
  have hlt3 : s.heap.objs.size + 1 < d2 := by rw [hd2]; exact Heap.lt_size hc5
  have F := F.keeps kp6
  clear N kp6 kp5 hm2 hkv2 hxs2
  obtain ⟨nl, N, back⟩ := all_news F
  have hns6 := F.ns
  ((repeat' (first | (k_unfold; (try dsimp only)) | (k_end; fail) | ((fail_if_success (with_reducible first | intro _ | refine st_and ?_ | refine st_ex ?_ | refine st_ex1 ?_ | refine st_eq ?_ | refine st_cr ?_ | refine st_td ?_ | refine st_tl ?_ | refine st_tt ?_ | refine st_tz ?_ | refine st_bs ?_ | refine st_ba ?_ | refine st_bp ?_ | refine st_bu ?_ | refine st_bg ?_ | refine st_sn ?_ | refine st_fo ?_ | refine st_al ?_ | refine st_ad ?_ | refine st_el ?_ | refine st_ed ?_ | refine st_cNq ?_ | refine st_cIn ?_ | refine st_cNn ?_)); first | walk1 | (dsimp only; (fail_if_success (with_reducible first | intro _ | refine st_and ?_ | refine st_ex ?_ | refine st_ex1 ?_ | refine st_eq ?_ | refine st_cr ?_ | refine st_td ?_ | refine st_tl ?_ | refine st_tt ?_ | refine st_tz ?_ | refine st_bs ?_ | refine st_ba ?_ | refine st_bp ?_ | refine st_bu ?_ | refine st_bg ?_ | refine st_sn ?_ | refine st_fo ?_ | refine st_al ?_ | refine st_ad ?_ | refine st_el ?_ | refine st_ed ?_ | refine st_cNq ?_ | refine st_cIn ?_ | refine st_cNn ?_)); walk1) | (leave1; walk_say "STEP leave1"; try dsimp only)) | fail "no step")); (try k_sweep); ((try (with_reducible rename Fr _ _ _ _ => F)); (try (with_reducible rename News _ _ _ _ => N))))
  rename_i _ _ lf _ hlow h7
  have bk := back F N fun p hp => List.Mem.tail _ hp
  have hc7 := bk _ _ (Nat.succ_ne_self _) hc6
  have T7 := tq_frame hns6 bk
  have R1 := R1.tq T7 fun o e => bk _ o (Nat.ne_of_gt (Nat.lt_of_succ_lt hlt2)) e
  have R2 := R2.tq T7 fun o e => bk _ o (Nat.ne_of_gt (Nat.lt_of_succ_lt hlt3)) e
  have hlf : h7.PlainList lf #[] := plN N (List.Mem.head _)
  have hlf0 : s.heap.get? lf = none := N.fresh (List.Mem.head _)
  have lo1 : (d1 == sysModules) = false := beq_eq_false_iff_ne.mpr (Nat.ne_of_gt (Nat.lt_trans hmod (Nat.lt_of_succ_lt hlt2)))
  have lo2 : (d2 == sysModules) = false := beq_eq_false_iff_ne.mpr (Nat.ne_of_gt (Nat.lt_trans hmod (Nat.lt_of_succ_lt hlt3)))
  have N := news_cons N hc7 (Nat.succ_ne_self _) hcn
  clear back bk T7 hc6 hns6
  ((try (with_reducible show wpAny _ _ _ _ _ _)); (try dsimp only))
  ((try (with_reducible show wpAny _ _ _ _ _ _)); (try dsimp only))
  k_fold
  refine anyE (wpAny_For ?_)
  ((repeat' (first | (k_unfold; (try dsimp only)) | (k_end; fail) | ((fail_if_success (with_reducible first | intro _ | refine st_and ?_ | refine st_ex ?_ | refine st_ex1 ?_ | refine st_eq ?_ | refine st_cr ?_ | refine st_td ?_ | refine st_tl ?_ | refine st_tt ?_ | refine st_tz ?_ | refine st_bs ?_ | refine st_ba ?_ | refine st_bp ?_ | refine st_bu ?_ | refine st_bg ?_ | refine st_sn ?_ | refine st_fo ?_ | refine st_al ?_ | refine st_ad ?_ | refine st_el ?_ | refine st_ed ?_ | refine st_cNq ?_ | refine st_cIn ?_ | refine st_cNn ?_)); first | walk1 | (dsimp only; (fail_if_success (with_reducible first | intro _ | refine st_and ?_ | refine st_ex ?_ | refine st_ex1 ?_ | refine st_eq ?_ | refine st_cr ?_ | refine st_td ?_ | refine st_tl ?_ | refine st_tt ?_ | refine st_tz ?_ | refine st_bs ?_ | refine st_ba ?_ | refine st_bp ?_ | refine st_bu ?_ | refine st_bg ?_ | refine st_sn ?_ | refine st_fo ?_ | refine st_al ?_ | refine st_ad ?_ | refine st_el ?_ | refine st_ed ?_ | refine st_cNq ?_ | refine st_cIn ?_ | refine st_cNn ?_)); walk1) | (leave1; walk_say "STEP leave1"; try dsimp only)) | fail "no step")); (try k_sweep); ((try (with_reducible rename Fr _ _ _ _ => F)); (try (with_reducible rename News _ _ _ _ => N))))
  obtain ⟨xa, hma, hka⟩ := id R1
  have hla : xa.length = (present r1).length := hka.length
  refine anyE (list_dict (xs := xa) hh lo1 hma (by rw [sizeLine_eq]; omega) ?_)
  intro h8 tk8 D8 kp8 hD8 hpl8
  have F := F.keeps kp8
  have N := News.keeps N kp8
  have hc8 := kp8 _ _ hc7
  have R1 := R1.keep kp8
  have R2 := R2.keep kp8
  have hlf := hlf.at fun o e => kp8 _ o e
  have hka8 := (keyVals_all hka).mono fun _ _ q => Rd.keep q kp8
  clear hka hma
  ((repeat' (first | (k_unfold; (try dsimp only)) | (k_end; fail) | ((fail_if_success (with_reducible first | intro _ | refine st_and ?_ | refine st_ex ?_ | refine st_ex1 ?_ | refine st_eq ?_ | refine st_cr ?_ | refine st_td ?_ | refine st_tl ?_ | refine st_tt ?_ | refine st_tz ?_ | refine st_bs ?_ | refine st_ba ?_ | refine st_bp ?_ | refine st_bu ?_ | refine st_bg ?_ | refine st_sn ?_ | refine st_fo ?_ | refine st_al ?_ | refine st_ad ?_ | refine st_el ?_ | refine st_ed ?_ | refine st_cNq ?_ | refine st_cIn ?_ | refine st_cNn ?_)); first | walk1 | (dsimp only; (fail_if_success (with_reducible first | intro _ | refine st_and ?_ | refine st_ex ?_ | refine st_ex1 ?_ | refine st_eq ?_ | refine st_cr ?_ | refine st_td ?_ | refine st_tl ?_ | refine st_tt ?_ | refine st_tz ?_ | refine st_bs ?_ | refine st_ba ?_ | refine st_bp ?_ | refine st_bu ?_ | refine st_bg ?_ | refine st_sn ?_ | refine st_fo ?_ | refine st_al ?_ | refine st_ad ?_ | refine st_el ?_ | refine st_ed ?_ | refine st_cNq ?_ | refine st_cIn ?_ | refine st_cNn ?_)); walk1) | (leave1; walk_say "STEP leave1"; try dsimp only)) | fail "no step")); (try k_sweep); ((try (with_reducible rename Fr _ _ _ _ => F)); (try (with_reducible rename News _ _ _ _ => N))))
  ((try (with_reducible show wpAny _ _ _ _ _ _)); (try dsimp only))
  k_fold
  refine anyE (lc_val (cl := [("first", s.heap.objs.size + 1)]) (hclos := ?hclos) ?_ (by decide) rfl (by decide))
  case hclos => rfl
  ((repeat' (first | (k_unfold; (try dsimp only)) | (k_end; fail) | ((fail_if_success (with_reducible first | intro _ | refine st_and ?_ | refine st_ex ?_ | refine st_ex1 ?_ | refine st_eq ?_ | refine st_cr ?_ | refine st_td ?_ | refine st_tl ?_ | refine st_tt ?_ | refine st_tz ?_ | refine st_bs ?_ | refine st_ba ?_ | refine st_bp ?_ | refine st_bu ?_ | refine st_bg ?_ | refine st_sn ?_ | refine st_fo ?_ | refine st_al ?_ | refine st_ad ?_ | refine st_el ?_ | refine st_ed ?_ | refine st_cNq ?_ | refine st_cIn ?_ | refine st_cNn ?_)); first | walk1 | (dsimp only; (fail_if_success (with_reducible first | intro _ | refine st_and ?_ | refine st_ex ?_ | refine st_ex1 ?_ | refine st_eq ?_ | refine st_cr ?_ | refine st_td ?_ | refine st_tl ?_ | refine st_tt ?_ | refine st_tz ?_ | refine st_bs ?_ | refine st_ba ?_ | refine st_bp ?_ | refine st_bu ?_ | refine st_bg ?_ | refine st_sn ?_ | refine st_fo ?_ | refine st_al ?_ | refine st_ad ?_ | refine st_el ?_ | refine st_ed ?_ | refine st_cNq ?_ | refine st_cIn ?_ | refine st_cNn ?_)); walk1) | (leave1; walk_say "STEP leave1"; try dsimp only)) | fail "no step")); (try k_sweep); ((try (with_reducible rename Fr _ _ _ _ => F)); (try (with_reducible rename News _ _ _ _ => N))))
  obtain ⟨xb, hmb, hkb⟩ := id R2
  have hlb : xb.length = (present r2).length := hkb.length
  refine ⟨xb.length, BT ["key"] (fun i ws => ∃ y, xb[i]? = some y ∧ ws = [.ref y.2.1]), Nat, fun j => ((present r2)[j]?).bind (fun i => if i ∈ present r1 then none else some i), fun S h v i => Rd S h v (keyT i), h8,
    drawn_dict hh lo2 hmb (fun _ q => q.elim) (fun q => q) ?_ ?_, by rw [sizeLine_eq]; omega, fun S h h' v x hk' r => r.mono fun b o hb e => ⟨hb, hk' b o hb e⟩, ?_, ?_, ?_⟩
  · intro C; rfl
  · intro C; rfl
  · rintro i s' m₀ mm C hi ⟨ws, ⟨y, hy, rfl⟩, _, rfl⟩ hns hkp
    obtain ⟨p, hp, hky⟩ := hkb.get2 hy
    have hp5 := present_lt p (List.mem_of_getElem? hp)
    have hcell : s'.heap.IsCell (s.heap.objs.size + 1) (some (.ref d1)) := ⟨oc4, hkp _ _ hc8, hoc4⟩
    obtain ⟨xs1, hm1, hk1, hat⟩ := (R1.keep hkp).at present_lt hp5
    obtain ⟨ka, e, _, hkey⟩ := key_of (prog := PG) (w := w) (xs := keyL p) (hky.2.1.keep hkp)
    cases e
    refine wpAny_tests_one ?_
    have nsM : NsM := ⟨⟩
    (try dsimp only)
    ((repeat' (first | (k_unfold; (try dsimp only)) | (k_end; fail) | ((fail_if_success (with_reducible first | intro _ | refine st_and ?_ | refine st_ex ?_ | refine st_ex1 ?_ | refine st_eq ?_ | refine st_cr ?_ | refine st_td ?_ | refine st_tl ?_ | refine st_tt ?_ | refine st_tz ?_ | refine st_bs ?_ | refine st_ba ?_ | refine st_bp ?_ | refine st_bu ?_ | refine st_bg ?_ | refine st_sn ?_ | refine st_fo ?_ | refine st_al ?_ | refine st_ad ?_ | refine st_el ?_ | refine st_ed ?_ | refine st_cNq ?_ | refine st_cIn ?_ | refine st_cNn ?_)); first | walk1 | (dsimp only; (fail_if_success (with_reducible first | intro _ | refine st_and ?_ | refine st_ex ?_ | refine st_ex1 ?_ | refine st_eq ?_ | refine st_cr ?_ | refine st_td ?_ | refine st_tl ?_ | refine st_tt ?_ | refine st_tz ?_ | refine st_bs ?_ | refine st_ba ?_ | refine st_bp ?_ | refine st_bu ?_ | refine st_bg ?_ | refine st_sn ?_ | refine st_fo ?_ | refine st_al ?_ | refine st_ad ?_ | refine st_el ?_ | refine st_ed ?_ | refine st_cNq ?_ | refine st_cIn ?_ | refine st_cNn ?_)); walk1) | (leave1; walk_say "STEP leave1"; try dsimp only)) | fail "no step")); (try k_sweep); ((try (with_reducible rename Fr _ _ _ _ => F)); (try (with_reducible rename News _ _ _ _ => N))))
    refine notin_heap (knd := kt PG w) (k := keyL p) (by show (A.deeper _).units + 1 < cLine; rw [units_deeper]; omega) hkey lo1 hm1 ?_
    rcases hat with ⟨hin, q, e, _⟩ | ⟨hin, e⟩
    · rw [e]
      ((repeat' (first | (k_unfold; (try dsimp only)) | (k_end; fail) | ((fail_if_success (with_reducible first | intro _ | refine st_and ?_ | refine st_ex ?_ | refine st_ex1 ?_ | refine st_eq ?_ | refine st_cr ?_ | refine st_td ?_ | refine st_tl ?_ | refine st_tt ?_ | refine st_tz ?_ | refine st_bs ?_ | refine st_ba ?_ | refine st_bp ?_ | refine st_bu ?_ | refine st_bg ?_ | refine st_sn ?_ | refine st_fo ?_ | refine st_al ?_ | refine st_ad ?_ | refine st_el ?_ | refine st_ed ?_ | refine st_cNq ?_ | refine st_cIn ?_ | refine st_cNn ?_)); first | walk1 | (dsimp only; (fail_if_success (with_reducible first | intro _ | refine st_and ?_ | refine st_ex ?_ | refine st_ex1 ?_ | refine st_eq ?_ | refine st_cr ?_ | refine st_td ?_ | refine st_tl ?_ | refine st_tt ?_ | refine st_tz ?_ | refine st_bs ?_ | refine st_ba ?_ | refine st_bp ?_ | refine st_bu ?_ | refine st_bg ?_ | refine st_sn ?_ | refine st_fo ?_ | refine st_al ?_ | refine st_ad ?_ | refine st_el ?_ | refine st_ed ?_ | refine st_cNq ?_ | refine st_cIn ?_ | refine st_cNn ?_)); walk1) | (leave1; walk_say "STEP leave1"; try dsimp only)) | fail "no step")); (try k_sweep); ((try (with_reducible rename Fr _ _ _ _ => F)); (try (with_reducible rename News _ _ _ _ => N))))
      exact ⟨⟨_, _, rfl, fun _ _ e => e⟩, by simp [hp, hin]⟩
    · rw [e]
      ((repeat' (first | (k_unfold; (try dsimp only)) | (k_end; fail) | ((fail_if_success (with_reducible first | intro _ | refine st_and ?_ | refine st_ex ?_ | refine st_ex1 ?_ | refine st_eq ?_ | refine st_cr ?_ | refine st_td ?_ | refine st_tl ?_ | refine st_tt ?_ | refine st_tz ?_ | refine st_bs ?_ | refine st_ba ?_ | refine st_bp ?_ | refine st_bu ?_ | refine st_bg ?_ | refine st_sn ?_ | refine st_fo ?_ | refine st_al ?_ | refine st_ad ?_ | refine st_el ?_ | refine st_ed ?_ | refine st_cNq ?_ | refine st_cIn ?_ | refine st_cNn ?_)); first | walk1 | (dsimp only; (fail_if_success (with_reducible first | intro _ | refine st_and ?_ | refine st_ex ?_ | refine st_ex1 ?_ | refine st_eq ?_ | refine st_cr ?_ | refine st_td ?_ | refine st_tl ?_ | refine st_tt ?_ | refine st_tz ?_ | refine st_bs ?_ | refine st_ba ?_ | refine st_bp ?_ | refine st_bu ?_ | refine st_bg ?_ | refine st_sn ?_ | refine st_fo ?_ | refine st_al ?_ | refine st_ad ?_ | refine st_el ?_ | refine st_ed ?_ | refine st_cNq ?_ | refine st_cIn ?_ | refine st_cNn ?_)); walk1) | (leave1; walk_say "STEP leave1"; try dsimp only)) | fail "no step")); (try k_sweep); ((try (with_reducible rename Fr _ _ _ _ => F)); (try (with_reducible rename News _ _ _ _ => N))))
      exact ⟨⟨_, _, rfl, fun _ _ e => e⟩, by simp [hp, hin]⟩
  · rintro i d s' m₀ mm C S' hi hdd ⟨ws, ⟨y, hy, rfl⟩, _, rfl⟩ hns hkp hC hS
    obtain ⟨p, hp, hky⟩ := hkb.get2 hy
    have hpd : p = d := by
      simp only [hp, Option.bind_some] at hdd
      by_cases hin : p ∈ present r1
      · rw [if_pos hin] at hdd; cases hdd
      · rw [if_neg hin] at hdd; exact Option.some.inj hdd
    subst hpd
    have nsM : NsM := ⟨⟩
    (try dsimp only)
    ((repeat' (first | (k_unfold; (try dsimp only)) | (k_end; fail) | ((fail_if_success (with_reducible first | intro _ | refine st_and ?_ | refine st_ex ?_ | refine st_ex1 ?_ | refine st_eq ?_ | refine st_cr ?_ | refine st_td ?_ | refine st_tl ?_ | refine st_tt ?_ | refine st_tz ?_ | refine st_bs ?_ | refine st_ba ?_ | refine st_bp ?_ | refine st_bu ?_ | refine st_bg ?_ | refine st_sn ?_ | refine st_fo ?_ | refine st_al ?_ | refine st_ad ?_ | refine st_el ?_ | refine st_ed ?_ | refine st_cNq ?_ | refine st_cIn ?_ | refine st_cNn ?_)); first | walk1 | (dsimp only; (fail_if_success (with_reducible first | intro _ | refine st_and ?_ | refine st_ex ?_ | refine st_ex1 ?_ | refine st_eq ?_ | refine st_cr ?_ | refine st_td ?_ | refine st_tl ?_ | refine st_tt ?_ | refine st_tz ?_ | refine st_bs ?_ | refine st_ba ?_ | refine st_bp ?_ | refine st_bu ?_ | refine st_bg ?_ | refine st_sn ?_ | refine st_fo ?_ | refine st_al ?_ | refine st_ad ?_ | refine st_el ?_ | refine st_ed ?_ | refine st_cNq ?_ | refine st_cIn ?_ | refine st_cNn ?_)); walk1) | (leave1; walk_say "STEP leave1"; try dsimp only)) | fail "no step")); (try k_sweep); ((try (with_reducible rename Fr _ _ _ _ => F)); (try (with_reducible rename News _ _ _ _ => N))))
    exact ⟨⟨_, _, rfl, fun _ _ e => e⟩, hky.2.1.mono fun b o _ e => ⟨hS b o (fun q => q) e, hkp b o e⟩⟩
  · intro h9 tk9 ys9 D9 S9 hD9 hpl9 hall9 hkp9
    have F := F.keeps hkp9
    have N := News.keeps N hkp9
    ((try (with_reducible show wpAny _ _ _ _ _ _)); (try dsimp only))
    ((repeat' (first | (k_unfold; (try dsimp only)) | (k_end; fail) | ((fail_if_success (with_reducible first | intro _ | refine st_and ?_ | refine st_ex ?_ | refine st_ex1 ?_ | refine st_eq ?_ | refine st_cr ?_ | refine st_td ?_ | refine st_tl ?_ | refine st_tt ?_ | refine st_tz ?_ | refine st_bs ?_ | refine st_ba ?_ | refine st_bp ?_ | refine st_bu ?_ | refine st_bg ?_ | refine st_sn ?_ | refine st_fo ?_ | refine st_al ?_ | refine st_ad ?_ | refine st_el ?_ | refine st_ed ?_ | refine st_cNq ?_ | refine st_cIn ?_ | refine st_cNn ?_)); first | walk1 | (dsimp only; (fail_if_success (with_reducible first | intro _ | refine st_and ?_ | refine st_ex ?_ | refine st_ex1 ?_ | refine st_eq ?_ | refine st_cr ?_ | refine st_td ?_ | refine st_tl ?_ | refine st_tt ?_ | refine st_tz ?_ | refine st_bs ?_ | refine st_ba ?_ | refine st_bp ?_ | refine st_bu ?_ | refine st_bg ?_ | refine st_sn ?_ | refine st_fo ?_ | refine st_al ?_ | refine st_ad ?_ | refine st_el ?_ | refine st_ed ?_ | refine st_cNq ?_ | refine st_cIn ?_ | refine st_cNn ?_)); walk1) | (leave1; walk_say "STEP leave1"; try dsimp only)) | fail "no step")); (try k_sweep); ((try (with_reducible rename Fr _ _ _ _ => F)); (try (with_reducible rename News _ _ _ _ => N))))
    have hun : (present r1 ++ extra r1 r2).Nodup := by
      refine List.nodup_append.mpr ⟨present_nodup r1, ?_, ?_⟩
      · unfold extra
        have : (present r2).filterMap (fun i => if i ∈ present r1 then none else some i) = (present r2).filter (fun i => decide (i ∉ present r1)) := by
          induction present r2 with
          | nil => rfl
          | cons a l ih =>
            rw [List.filterMap_cons, List.filter_cons]
            by_cases h : a ∈ present r1
            · simp only [h, if_true, not_true, decide_false]; simpa using ih
            · simp only [h, if_false, not_false_eq_true, decide_true, if_true]; rw [ih]
        rw [this]
        exact (present_nodup r2).sublist List.filter_sublist
      · intro a ha b hb e
        subst e
        obtain ⟨i, _, hi⟩ := List.mem_filterMap.mp hb
        by_cases h : i ∈ present r1
        · rw [if_pos h] at hi; cases hi
        · rw [if_neg h] at hi; cases hi; exact h ha
    have hu5 : ∀ i ∈ present r1 ++ extra r1 r2, i < 5 := fun i hi => by
      rcases List.mem_append.mp hi with hi | hi
      · exact present_lt i hi
      · obtain ⟨j, hj, e⟩ := List.mem_filterMap.mp hi
        by_cases h : j ∈ present r1
        · rw [if_pos h] at e; cases e
        · rw [if_neg h] at e; cases e; exact present_lt i hj
    have hall9' : All2 (fun v i => RdT h9 v (keyT i)) ys9 (extra r1 r2) := by
      rw [hlb, range_getB] at hall9
      exact hall9.mono fun _ _ r => r.top
    have R1 := R1.keep hkp9
    have R2 := R2.keep hkp9
    have hc9 := hkp9 _ _ hc8
    have hlf := hlf.at fun o e => hkp9 _ o e
    have hpl8 := hpl8.at fun o e => hkp9 _ o e
    have hka := hka8.mono fun _ _ q => Rd.keep q hkp9
    have hlk : (keyVals xa).length = (present r1).length := hka.length
    have hl9 : ys9.length = (extra r1 r2).length := hall9'.length
    have hu5' := nodup_len 5 _ hun hu5
    rw [List.length_append] at hu5'
    clear N
    obtain ⟨nl, N, back⟩ := all_news F
    have hns9 := F.ns
    refine add_lists F N hpl8.isList hpl9.isList (fun h10 F10 N10 => ?_) (by rw [sizeLine_eq]; omega)
    have bk := back F10 N10 (fun p hp => .tail _ hp)
    have T10 := tq_frame hns9 bk
    have hpl10 : h10.PlainList _ (keyVals xa ++ ys9).toArray := plN N10 (List.Mem.head _)
    have hu10 := (hka.append hall9').mono fun _ _ q => Rd.tq T10 q
    have R1 := R1.tq T10 fun o e => bk _ o (Nat.ne_of_gt (Nat.lt_of_succ_lt hlt2)) e
    have R2 := R2.tq T10 fun o e => bk _ o (Nat.ne_of_gt (Nat.lt_of_succ_lt hlt3)) e
    have hc10 := bk _ _ (Nat.succ_ne_self _) hc9
    have hlfL := pl_ne_ns hns9 hlf
    have hlf := hlf.at fun o e => bk _ o hlfL e
    clear N F back bk T10 hns9
    have F := F10
    have N := news0 F
    ((try (with_reducible show wpAny _ _ _ _ _ _)); (try dsimp only))
    ((repeat' (first | (k_unfold; (try dsimp only)) | (k_end; fail) | ((fail_if_success (with_reducible first | intro _ | refine st_and ?_ | refine st_ex ?_ | refine st_ex1 ?_ | refine st_eq ?_ | refine st_cr ?_ | refine st_td ?_ | refine st_tl ?_ | refine st_tt ?_ | refine st_tz ?_ | refine st_bs ?_ | refine st_ba ?_ | refine st_bp ?_ | refine st_bu ?_ | refine st_bg ?_ | refine st_sn ?_ | refine st_fo ?_ | refine st_al ?_ | refine st_ad ?_ | refine st_el ?_ | refine st_ed ?_ | refine st_cNq ?_ | refine st_cIn ?_ | refine st_cNn ?_)); first | walk1 | (dsimp only; (fail_if_success (with_reducible first | intro _ | refine st_and ?_ | refine st_ex ?_ | refine st_ex1 ?_ | refine st_eq ?_ | refine st_cr ?_ | refine st_td ?_ | refine st_tl ?_ | refine st_tt ?_ | refine st_tz ?_ | refine st_bs ?_ | refine st_ba ?_ | refine st_bp ?_ | refine st_bu ?_ | refine st_bg ?_ | refine st_sn ?_ | refine st_fo ?_ | refine st_al ?_ | refine st_ad ?_ | refine st_el ?_ | refine st_ed ?_ | refine st_cNq ?_ | refine st_cIn ?_ | refine st_cNn ?_)); walk1) | (leave1; walk_say "STEP leave1"; try dsimp only)) | fail "no step")); (try k_sweep); ((try (with_reducible rename Fr _ _ _ _ => F)); (try (with_reducible rename News _ _ _ _ => N))))
    refine anyE (sorted_call (vs := keyVals xa ++ ys9) (ns := present r1 ++ extra r1 r2) F ?hcol hu10 hun hu5 ?_)
    case hcol =>
      intro Q' hq
      refine collect_list hpl10.isList (hq _ _ fun b o e => ?_) (by rw [List.length_append, sizeLine_eq]; omega)
      have hlt : b < h10.objs.size := Heap.lt_size e
      show Heap.get? (Heap.update _ _ _) b = some o
      rw [Heap.get?_update_ne _ _ _ _ (Nat.ne_of_lt hlt), Heap.get?_push_ne _ _ _ (Nat.ne_of_lt hlt)]
      exact e
    intro h11 tk11 D11 vs11 F11 k11 hD11 hpl11 hall11
    have T11 := tq_frame F.ns k11
    have R1 := R1.tq T11 fun o e => k11 _ o (Nat.ne_of_gt (Nat.lt_of_succ_lt hlt2)) e
    have R2 := R2.tq T11 fun o e => k11 _ o (Nat.ne_of_gt (Nat.lt_of_succ_lt hlt3)) e
    have hc11 := k11 _ _ (Nat.succ_ne_self _) hc10
    have hlf10 := hlf
    have hlf := hlf.at fun o e => k11 _ o hlfL e
    have F := F11
    clear N
    have N := news0 F
    ((try (with_reducible show wpAny _ _ _ _ _ _)); (try dsimp only))
    have hDlf : D11 ≠ lf := by rintro rfl; obtain ⟨n, e⟩ := hlf10; rw [e] at hD11; cases hD11
    have hDL := pl_ne_ns F.ns hpl11
    obtain ⟨M0, hM0, F0⟩ : ∃ M, M = _ ∧ Fr s.heap s.heap.objs.size h11 M := ⟨_, rfl, F⟩
    have hlen11 : vs11.length = (sortN (present r1 ++ extra r1 r2)).length := hall11.length
    have hs5 := nodup_len 5 (sortN (present r1 ++ extra r1 r2)) (List.nodup_range.sublist List.filter_sublist) (fun i hi => List.mem_range.mp (List.mem_filter.mp hi).1)
    refine anyE (list_for2 (U := fun b => b = s.heap.objs.size ∨ b = lf) (vs := vs11) hh hpl11.isList ?_ ?_ ?_)
    · rintro b (rfl | rfl)
      · exact F.ns.lt
      · obtain ⟨n, e⟩ := hlf; exact Heap.lt_size e
    · rintro (q | q)
      · exact hDL q
      · exact hDlf q
    intro I RD St h12 It hSt hst0 hnRD hRD hI kp12
    have hbn : s.heap.get? s.heap.objs.size = none := fresh_none (Nat.le_refl _)
    have nI : ∀ b o, h11.get? b = some o → ¬ b ∈ [I] := fun b o e q => by rw [List.mem_singleton.mp q, hI] at e; cases e
    refine for_block2 (UJ w s.heap (s.heap.objs.size + 1) d1 d2 lf oc4 M0 r1 r2 vs11 (sortN (present r1 ++ extra r1 r2))) (It (fun C => rfl) (fun C => rfl)) (hnRD _ (.inl rfl)) hst0 (F0.ns.at' fun o e => kp12 _ o e) ?_ ?_ ?_ ?_
    · exact ⟨fun _ => rfl, fun b o e => kp12 b o (F.keep b o e), R1.keep kp12, R2.keep kp12, kp12 _ _ hc11, hall11.mono fun _ _ q => Rd.keep q kp12, [], hlf.at fun o e => kp12 _ o e, Nat.le_refl _, .nil⟩
    · intro i m m₁ h h' st hn hk J
      refine J.mono (X := fun b => b ∈ [I] ∨ b = s.heap.objs.size) (fun b o q e => hk b o (fun z => q (.inl z)) (fun z => q (.inr z)) e) ?_ ?_ ?_ ?_ ?_ ?_
      · rintro b o vs n (q | q) e hc hd
        · rw [List.mem_singleton.mp q] at e
          obtain ⟨o', e', hc', _⟩ := hSt i h st
          rw [e] at e'; cases e'; rw [hc] at hc'; simp at hc'
        · subst q; exact ns_data hn e hd
      · rintro b o e (q | q)
        · exact nI b o (F.keep b o e) q
        · subst q; rw [hbn] at e; cases e
      · rintro (q | q)
        · obtain ⟨_, ⟨o, _, _, e, _⟩, _⟩ := R1; exact nI _ _ e q
        · exact absurd q (Nat.ne_of_gt (Nat.lt_of_succ_lt hlt2))
      · rintro (q | q)
        · obtain ⟨_, ⟨o, _, _, e, _⟩, _⟩ := R2; exact nI _ _ e q
        · exact absurd q (Nat.ne_of_gt (Nat.lt_of_succ_lt hlt3))
      · rintro (q | q)
        · obtain ⟨n, e⟩ := hlf; exact nI _ _ e q
        · exact hlfL q
      · rintro (q | q)
        · exact nI _ _ hc11 q
        · exact absurd q (Nat.succ_ne_self _)
    · rintro i s' m₀ m hi J ⟨ws, ⟨y, hy, rfl⟩, _, rfl⟩ hns hst ⟨hh', tk', rfl⟩
      have hns : hh'.Ns s.heap.objs.size (fun z => if z = ("key" : Str) then some y else m₀ z) := hns
      rw [J.mm y] at hns
      obtain ⟨p, hp, hky⟩ := J.keys.get2 hy
      have hp5 : p < 5 := List.mem_range.mp (List.mem_filter.mp (List.mem_of_getElem? hp)).1
      have hns2 := hns
      rw [hM0] at hns2
      have F : Fr s.heap s.heap.objs.size hh' _ := ⟨hns2, J.base, F.above⟩
      obtain ⟨ys, hl, hylen, hyr⟩ := J.out
      obtain ⟨nO, hlo⟩ := id hl
      clear N
      obtain ⟨nl, N, hna, back⟩ := all_news_but F lf
      have N := news_cons (news_cons N hlo hlfL hlf0) J.cell (Nat.succ_ne_self _) hcn
      obtain ⟨ka, e, _, hkey⟩ := key_of (prog := PG) (w := w) (xs := keyL p) hky
      subst e
      ((repeat' (first | (k_unfold; (try dsimp only)) | (k_end; fail) | ((fail_if_success (with_reducible first | intro _ | refine st_and ?_ | refine st_ex ?_ | refine st_ex1 ?_ | refine st_eq ?_ | refine st_cr ?_ | refine st_td ?_ | refine st_tl ?_ | refine st_tt ?_ | refine st_tz ?_ | refine st_bs ?_ | refine st_ba ?_ | refine st_bp ?_ | refine st_bu ?_ | refine st_bg ?_ | refine st_sn ?_ | refine st_fo ?_ | refine st_al ?_ | refine st_ad ?_ | refine st_el ?_ | refine st_ed ?_ | refine st_cNq ?_ | refine st_cIn ?_ | refine st_cNn ?_)); first | walk1 | (dsimp only; (fail_if_success (with_reducible first | intro _ | refine st_and ?_ | refine st_ex ?_ | refine st_ex1 ?_ | refine st_eq ?_ | refine st_cr ?_ | refine st_td ?_ | refine st_tl ?_ | refine st_tt ?_ | refine st_tz ?_ | refine st_bs ?_ | refine st_ba ?_ | refine st_bp ?_ | refine st_bu ?_ | refine st_bg ?_ | refine st_sn ?_ | refine st_fo ?_ | refine st_al ?_ | refine st_ad ?_ | refine st_el ?_ | refine st_ed ?_ | refine st_cNq ?_ | refine st_cIn ?_ | refine st_cNn ?_)); walk1) | (leave1; walk_say "STEP leave1"; try dsimp only)) | fail "no step")); (try k_sweep); ((try (with_reducible rename Fr _ _ _ _ => F)); (try (with_reducible rename News _ _ _ _ => N))))
      obtain ⟨xs2, hm2, hk2, hat2⟩ := J.R2.at present_lt hp5
      refine notin_heap (knd := kt PG w) (k := keyL p) (by show (A.deeper _).units + 1 < cLine; rw [units_deeper]; omega) hkey lo2 hm2 ?_
      have x1 := Nat.ne_of_gt (Nat.lt_of_succ_lt hlt2)
      have x2 := Nat.ne_of_gt (Nat.lt_of_succ_lt hlt3)
      have z1 := J.R1.ne_list hl
      have z2 := J.R2.ne_list hl
      have zc : s.heap.objs.size + 1 ≠ lf := by
        intro q
        have e := J.cell
        rw [q, hlo] at e; cases e; cases hoc4
      have hysz : ys.toArray.size ≤ sizeLine := by rw [List.size_toArray, sizeLine_eq]; omega
      have appd : ∀ {h13 h14 : Heap} {D' : Addr} {v : Value} {d : Dat} {m' : Str → Option Value} {tk14 : Nat} {nl' : List (Addr × Obj)}, r1 p ≠ r2 p → dueT p (r2 p) = d → Fr s.heap s.heap.objs.size h13 m' → News s.heap s.heap.objs.size h13 nl' → (∀ p ∈ nl, p ∈ nl') → h13.PlainList lf ys.toArray →
          h14.PlainList lf (ys.toArray.push v) → Heap.SameBut lf h13 h14 → m' = (fun y => if y = ("key" : Str) then some (.ref ka) else M0 y) → RdT h13 v d →
          ∃ h' tk m', ({ s with heap := h14, toks := tk14 } : Shared) = { s with heap := h', toks := tk } ∧ h'.Ns s.heap.objs.size m' ∧ UJ w s.heap (s.heap.objs.size + 1) d1 d2 lf oc4 M0 r1 r2 vs11 (sortN (present r1 ++ extra r1 r2)) (i + 1) m' h' ∧ (∀ b o, RD b → hh'.get? b = some o → h'.get? b = some o) := by
        intro h13 h14 D' v d m' tk14 nl' hne hd F13 N13 hnl hl13 hl14 hs14 hm' hv
        have bk := back F13 N13 hnl
        have T14 : Tq h13 h14 := Tq.of_but (X := (· = lf)) (fun b o q e => hs14.extBut b o q e) (fun b o vs n q e hc hd => by
          subst q
          obtain ⟨k13, e13⟩ := hl13
          rw [e] at e13; cases e13; simp at hc)
        subst hm'
        refine ⟨h14, tk14, _, rfl, F13.ns.at' fun o e => hs14.extBut _ o (Ne.symm hlfL) e, J.app hl hns (fun b o b1 b2 e => hs14.extBut b o b2 (bk b o b1 b2 e)) hp (hd ▸ deed_some hne) hbn hlf0 x1 x2 (Nat.succ_ne_self _) z1 z2 zc (by simpa using hl14) (hv.tq T14), ?_⟩
        exact fun b o hr e => hs14.extBut b o (fun q => hnRD b (.inr q) hr) (bk b o (fun q => hnRD b (.inl q) hr) (fun q => hnRD b (.inr q) hr) e)
      rcases hat2 with ⟨hin, ⟨qa, qv⟩, e2, hq2⟩ | ⟨hin, e2⟩
      · rw [e2]
        rw [show (!(some (qa, qv) : Option (Addr × Value)).isSome) = false from rfl]
        obtain ⟨xs1, es1, ep1, ho1, hm1, hv1⟩ := J.R1.get hp5
        obtain ⟨c2, hc2⟩ := present_some p hin
        have hq3 : RdT hh' qv (cellT (r2 p)) := hq2
        have hq4 := hq3
        rw [hc2] at hq4
        obtain ⟨tv, ws, e, _, htv, hw⟩ := hq4.tup_inv
        subst e
        obtain ⟨v1, ws, rfl, w1, hw⟩ := hw.cons_inv
        obtain ⟨v2, ws, rfl, w2, hw⟩ := hw.cons_inv
        obtain rfl := hw.nil_inv
        ((repeat' (first | (k_unfold; (try dsimp only)) | (k_end; fail) | ((fail_if_success (with_reducible first | intro _ | refine st_and ?_ | refine st_ex ?_ | refine st_ex1 ?_ | refine st_eq ?_ | refine st_cr ?_ | refine st_td ?_ | refine st_tl ?_ | refine st_tt ?_ | refine st_tz ?_ | refine st_bs ?_ | refine st_ba ?_ | refine st_bp ?_ | refine st_bu ?_ | refine st_bg ?_ | refine st_sn ?_ | refine st_fo ?_ | refine st_al ?_ | refine st_ad ?_ | refine st_el ?_ | refine st_ed ?_ | refine st_cNq ?_ | refine st_cIn ?_ | refine st_cNn ?_)); first | walk1 | (dsimp only; (fail_if_success (with_reducible first | intro _ | refine st_and ?_ | refine st_ex ?_ | refine st_ex1 ?_ | refine st_eq ?_ | refine st_cr ?_ | refine st_td ?_ | refine st_tl ?_ | refine st_tt ?_ | refine st_tz ?_ | refine st_bs ?_ | refine st_ba ?_ | refine st_bp ?_ | refine st_bu ?_ | refine st_bg ?_ | refine st_sn ?_ | refine st_fo ?_ | refine st_al ?_ | refine st_ad ?_ | refine st_el ?_ | refine st_ed ?_ | refine st_cNq ?_ | refine st_cIn ?_ | refine st_cNn ?_)); walk1) | (leave1; walk_say "STEP leave1"; try dsimp only)) | fail "no step")); (try k_sweep); ((try (with_reducible rename Fr _ _ _ _ => F)); (try (with_reducible rename News _ _ _ _ => N))))
        refine dict_get1 (by show Around.units _ + 1 < cLine; rw [units_deeper]; omega) hkey lo1 hm1 ?_
        ((repeat' (first | (k_unfold; (try dsimp only)) | (k_end; fail) | ((fail_if_success (with_reducible first | intro _ | refine st_and ?_ | refine st_ex ?_ | refine st_ex1 ?_ | refine st_eq ?_ | refine st_cr ?_ | refine st_td ?_ | refine st_tl ?_ | refine st_tt ?_ | refine st_tz ?_ | refine st_bs ?_ | refine st_ba ?_ | refine st_bp ?_ | refine st_bu ?_ | refine st_bg ?_ | refine st_sn ?_ | refine st_fo ?_ | refine st_al ?_ | refine st_ad ?_ | refine st_el ?_ | refine st_ed ?_ | refine st_cNq ?_ | refine st_cIn ?_ | refine st_cNn ?_)); first | walk1 | (dsimp only; (fail_if_success (with_reducible first | intro _ | refine st_and ?_ | refine st_ex ?_ | refine st_ex1 ?_ | refine st_eq ?_ | refine st_cr ?_ | refine st_td ?_ | refine st_tl ?_ | refine st_tt ?_ | refine st_tz ?_ | refine st_bs ?_ | refine st_ba ?_ | refine st_bp ?_ | refine st_bu ?_ | refine st_bg ?_ | refine st_sn ?_ | refine st_fo ?_ | refine st_al ?_ | refine st_ad ?_ | refine st_el ?_ | refine st_ed ?_ | refine st_cNq ?_ | refine st_cIn ?_ | refine st_cNn ?_)); walk1) | (leave1; walk_say "STEP leave1"; try dsimp only)) | fail "no step")); (try k_sweep); ((try (with_reducible rename Fr _ _ _ _ => F)); (try (with_reducible rename News _ _ _ _ => N))))
        refine ne_rd hv1 hq3 (cellT_ok ok1 p) (cellT_ok ok2 p) (by rw [units_deeper]; omega) ?_
        rw [cellT_eq]
        by_cases heq : r1 p = r2 p
        · rw [eqB_true.mpr heq, show (!true) = false from rfl]
          ((repeat' (first | (k_unfold; (try dsimp only)) | (k_end; fail) | ((fail_if_success (with_reducible first | intro _ | refine st_and ?_ | refine st_ex ?_ | refine st_ex1 ?_ | refine st_eq ?_ | refine st_cr ?_ | refine st_td ?_ | refine st_tl ?_ | refine st_tt ?_ | refine st_tz ?_ | refine st_bs ?_ | refine st_ba ?_ | refine st_bp ?_ | refine st_bu ?_ | refine st_bg ?_ | refine st_sn ?_ | refine st_fo ?_ | refine st_al ?_ | refine st_ad ?_ | refine st_el ?_ | refine st_ed ?_ | refine st_cNq ?_ | refine st_cIn ?_ | refine st_cNn ?_)); first | walk1 | (dsimp only; (fail_if_success (with_reducible first | intro _ | refine st_and ?_ | refine st_ex ?_ | refine st_ex1 ?_ | refine st_eq ?_ | refine st_cr ?_ | refine st_td ?_ | refine st_tl ?_ | refine st_tt ?_ | refine st_tz ?_ | refine st_bs ?_ | refine st_ba ?_ | refine st_bp ?_ | refine st_bu ?_ | refine st_bg ?_ | refine st_sn ?_ | refine st_fo ?_ | refine st_al ?_ | refine st_ad ?_ | refine st_el ?_ | refine st_ed ?_ | refine st_cNq ?_ | refine st_cIn ?_ | refine st_cNn ?_)); walk1) | (leave1; walk_say "STEP leave1"; try dsimp only)) | fail "no step")); (try k_sweep); ((try (with_reducible rename Fr _ _ _ _ => F)); (try (with_reducible rename News _ _ _ _ => N))))
          exact ⟨_, _, _, rfl, hns, J.same hns (fun b o _ e => e) hp (deed_none heq) hbn x1 x2 hlfL (Nat.succ_ne_self _), fun b o _ e => e⟩
        · rw [eqB_false.mpr heq, show (!false) = true from rfl]
          ((repeat' (first | (k_unfold; (try dsimp only)) | (k_end; fail) | ((fail_if_success (with_reducible first | intro _ | refine st_and ?_ | refine st_ex ?_ | refine st_ex1 ?_ | refine st_eq ?_ | refine st_cr ?_ | refine st_td ?_ | refine st_tl ?_ | refine st_tt ?_ | refine st_tz ?_ | refine st_bs ?_ | refine st_ba ?_ | refine st_bp ?_ | refine st_bu ?_ | refine st_bg ?_ | refine st_sn ?_ | refine st_fo ?_ | refine st_al ?_ | refine st_ad ?_ | refine st_el ?_ | refine st_ed ?_ | refine st_cNq ?_ | refine st_cIn ?_ | refine st_cNn ?_)); first | walk1 | (dsimp only; (fail_if_success (with_reducible first | intro _ | refine st_and ?_ | refine st_ex ?_ | refine st_ex1 ?_ | refine st_eq ?_ | refine st_cr ?_ | refine st_td ?_ | refine st_tl ?_ | refine st_tt ?_ | refine st_tz ?_ | refine st_bs ?_ | refine st_ba ?_ | refine st_bp ?_ | refine st_bu ?_ | refine st_bg ?_ | refine st_sn ?_ | refine st_fo ?_ | refine st_al ?_ | refine st_ad ?_ | refine st_el ?_ | refine st_ed ?_ | refine st_cNq ?_ | refine st_cIn ?_ | refine st_cNn ?_)); walk1) | (leave1; walk_say "STEP leave1"; try dsimp only)) | fail "no step")); (try k_sweep); ((try (with_reducible rename Fr _ _ _ _ => F)); (try (with_reducible rename News _ _ _ _ => N))))
          rename_i D' h13 hl1
          have hl13 : h13.PlainList lf ys.toArray := ⟨_, N.get (by (repeat (first | exact List.Mem.head _ | refine List.Mem.tail _ ?_)))⟩
          have htD : RdT h13 (.ref D') (dueT p (r2 p)) := by
            have e4 : dueT p (r2 p) = .tuple [keyT p, .str c2.1, .str c2.2] := by rw [hc2]; rfl
            rw [e4]
            have bk := back F N (fun p hp => .tail _ (.tail _ (.tail _ hp)))
            have Tq1 : Tq hh' h13 := Tq.of_but (X := fun b => b = s.heap.objs.size ∨ b = lf) (fun b o q e => bk b o (fun z => q (.inl z)) (fun z => q (.inr z)) e) (fun b o vs n q e hc hd => by
              rcases q with q | q
              · subst q; exact ns_data hns e hd
              · subst q; rw [hlo] at e; cases e; simp at hc)
            exact Rd.of_tup trivial (tupN N (List.Mem.head _)) (.cons (hky.tq Tq1) (.cons (w1.tq Tq1) (.cons (w2.tq Tq1) .nil)))
          refine wpAny_list_append_plain hl13 (fun h14 hl14 hs14 => ?_) hysz
          have F13 := F
          have N13 := N
          have fin := fun tk14 => appd (tk14 := tk14) (D' := D') heq rfl F13 N13 (fun p hp => .tail _ (.tail _ (.tail _ hp))) hl13 hl14 hs14 (by rw [hM0]) htD
          have F14 := but_Fr' F hlfL hlf0 (fun b o hb e => hs14.extBut b o hb e)
          clear N F
          have F := F14
          have N := news0 F
          ((repeat' (first | (k_unfold; (try dsimp only)) | (k_end; fail) | ((fail_if_success (with_reducible first | intro _ | refine st_and ?_ | refine st_ex ?_ | refine st_ex1 ?_ | refine st_eq ?_ | refine st_cr ?_ | refine st_td ?_ | refine st_tl ?_ | refine st_tt ?_ | refine st_tz ?_ | refine st_bs ?_ | refine st_ba ?_ | refine st_bp ?_ | refine st_bu ?_ | refine st_bg ?_ | refine st_sn ?_ | refine st_fo ?_ | refine st_al ?_ | refine st_ad ?_ | refine st_el ?_ | refine st_ed ?_ | refine st_cNq ?_ | refine st_cIn ?_ | refine st_cNn ?_)); first | walk1 | (dsimp only; (fail_if_success (with_reducible first | intro _ | refine st_and ?_ | refine st_ex ?_ | refine st_ex1 ?_ | refine st_eq ?_ | refine st_cr ?_ | refine st_td ?_ | refine st_tl ?_ | refine st_tt ?_ | refine st_tz ?_ | refine st_bs ?_ | refine st_ba ?_ | refine st_bp ?_ | refine st_bu ?_ | refine st_bg ?_ | refine st_sn ?_ | refine st_fo ?_ | refine st_al ?_ | refine st_ad ?_ | refine st_el ?_ | refine st_ed ?_ | refine st_cNq ?_ | refine st_cIn ?_ | refine st_cNn ?_)); walk1) | (leave1; walk_say "STEP leave1"; try dsimp only)) | fail "no step")); (try k_sweep); ((try (with_reducible rename Fr _ _ _ _ => F)); (try (with_reducible rename News _ _ _ _ => N))))
          exact fin _
      · rw [e2]
        rw [show (!(none : Option (Addr × Value)).isSome) = true from rfl]
        have r2n : r2 p = none := Classical.byContradiction fun q => hin ((mem_present hp5).mpr q)
        have hin1 : p ∈ present r1 := by
          have hm := (List.mem_filter.mp (List.mem_of_getElem? hp)).2
          have hm' : p ∈ present r1 ++ extra r1 r2 := by simpa using hm
          rcases List.mem_append.mp hm' with q | q
          · exact q
          · obtain ⟨j, hj, e⟩ := List.mem_filterMap.mp q
            by_cases hj1 : j ∈ present r1
            · rw [if_pos hj1] at e; cases e
            · rw [if_neg hj1] at e; cases e; exact absurd hj hin
        ((repeat' (first | (k_unfold; (try dsimp only)) | (k_end; fail) | ((fail_if_success (with_reducible first | intro _ | refine st_and ?_ | refine st_ex ?_ | refine st_ex1 ?_ | refine st_eq ?_ | refine st_cr ?_ | refine st_td ?_ | refine st_tl ?_ | refine st_tt ?_ | refine st_tz ?_ | refine st_bs ?_ | refine st_ba ?_ | refine st_bp ?_ | refine st_bu ?_ | refine st_bg ?_ | refine st_sn ?_ | refine st_fo ?_ | refine st_al ?_ | refine st_ad ?_ | refine st_el ?_ | refine st_ed ?_ | refine st_cNq ?_ | refine st_cIn ?_ | refine st_cNn ?_)); first | walk1 | (dsimp only; (fail_if_success (with_reducible first | intro _ | refine st_and ?_ | refine st_ex ?_ | refine st_ex1 ?_ | refine st_eq ?_ | refine st_cr ?_ | refine st_td ?_ | refine st_tl ?_ | refine st_tt ?_ | refine st_tz ?_ | refine st_bs ?_ | refine st_ba ?_ | refine st_bp ?_ | refine st_bu ?_ | refine st_bg ?_ | refine st_sn ?_ | refine st_fo ?_ | refine st_al ?_ | refine st_ad ?_ | refine st_el ?_ | refine st_ed ?_ | refine st_cNq ?_ | refine st_cIn ?_ | refine st_cNn ?_)); walk1) | (leave1; walk_say "STEP leave1"; try dsimp only)) | fail "no step")); (try k_sweep); ((try (with_reducible rename Fr _ _ _ _ => F)); (try (with_reducible rename News _ _ _ _ => N))))
        rename_i D' h13 hl1
        have hl13 : h13.PlainList lf ys.toArray := ⟨_, N.get (by (repeat (first | exact List.Mem.head _ | refine List.Mem.tail _ ?_)))⟩
        have htD : RdT h13 (.ref D') (dueT p (r2 p)) := by
          rw [r2n]
          have bk := back F N (fun p hp => .tail _ (.tail _ (.tail _ hp)))
          have Tq1 : Tq hh' h13 := Tq.of_but (X := fun b => b = s.heap.objs.size ∨ b = lf) (fun b o q e => bk b o (fun z => q (.inl z)) (fun z => q (.inr z)) e) (fun b o vs n q e hc hd => by
            rcases q with q | q
            · subst q; exact ns_data hns e hd
            · subst q; rw [hlo] at e; cases e; simp at hc)
          exact Rd.of_tup trivial (tupN N (List.Mem.head _)) (.cons (hky.tq Tq1) (.cons .none (.cons .none .nil)))
        refine wpAny_list_append_plain hl13 (fun h14 hl14 hs14 => ?_) hysz
        have F13 := F
        have N13 := N
        have fin := fun tk14 => appd (tk14 := tk14) (D' := D') (fun q => by rw [r2n] at q; exact (mem_present hp5).mp hin1 q) rfl F13 N13 (fun p hp => .tail _ (.tail _ (.tail _ hp))) hl13 hl14 hs14 (by rw [hM0]) htD
        have F14 := but_Fr' F hlfL hlf0 (fun b o hb e => hs14.extBut b o hb e)
        clear N F
        have F := F14
        have N := news0 F
        ((repeat' (first | (k_unfold; (try dsimp only)) | (k_end; fail) | ((fail_if_success (with_reducible first | intro _ | refine st_and ?_ | refine st_ex ?_ | refine st_ex1 ?_ | refine st_eq ?_ | refine st_cr ?_ | refine st_td ?_ | refine st_tl ?_ | refine st_tt ?_ | refine st_tz ?_ | refine st_bs ?_ | refine st_ba ?_ | refine st_bp ?_ | refine st_bu ?_ | refine st_bg ?_ | refine st_sn ?_ | refine st_fo ?_ | refine st_al ?_ | refine st_ad ?_ | refine st_el ?_ | refine st_ed ?_ | refine st_cNq ?_ | refine st_cIn ?_ | refine st_cNn ?_)); first | walk1 | (dsimp only; (fail_if_success (with_reducible first | intro _ | refine st_and ?_ | refine st_ex ?_ | refine st_ex1 ?_ | refine st_eq ?_ | refine st_cr ?_ | refine st_td ?_ | refine st_tl ?_ | refine st_tt ?_ | refine st_tz ?_ | refine st_bs ?_ | refine st_ba ?_ | refine st_bp ?_ | refine st_bu ?_ | refine st_bg ?_ | refine st_sn ?_ | refine st_fo ?_ | refine st_al ?_ | refine st_ad ?_ | refine st_el ?_ | refine st_ed ?_ | refine st_cNq ?_ | refine st_cIn ?_ | refine st_cNn ?_)); walk1) | (leave1; walk_say "STEP leave1"; try dsimp only)) | fail "no step")); (try k_sweep); ((try (with_reducible rename Fr _ _ _ _ => F)); (try (with_reducible rename News _ _ _ _ => N))))
        exact fin _
    · intro h15 tk15 m15 hns15 J15
      have e15 : (fun y => if y = ("key" : Str) then m15 ("key" : Str) else M0 y) = m15 := by
        funext y
        by_cases hy : y = ("key" : Str)
        · simp [hy]
        · have := congrFun (J15.mm .none) y
          simpa [hy] using this.symm
      rw [← e15, hM0] at hns15
      have F : Fr s.heap s.heap.objs.size h15 _ := ⟨hns15, J15.base, F.above⟩
      clear N
      have N := news0 F
      ((try (with_reducible show wpAny _ _ _ _ _ _)); (try dsimp only))
      ((repeat' (first | (k_unfold; (try dsimp only)) | (k_end; fail) | ((fail_if_success (with_reducible first | intro _ | refine st_and ?_ | refine st_ex ?_ | refine st_ex1 ?_ | refine st_eq ?_ | refine st_cr ?_ | refine st_td ?_ | refine st_tl ?_ | refine st_tt ?_ | refine st_tz ?_ | refine st_bs ?_ | refine st_ba ?_ | refine st_bp ?_ | refine st_bu ?_ | refine st_bg ?_ | refine st_sn ?_ | refine st_fo ?_ | refine st_al ?_ | refine st_ad ?_ | refine st_el ?_ | refine st_ed ?_ | refine st_cNq ?_ | refine st_cIn ?_ | refine st_cNn ?_)); first | walk1 | (dsimp only; (fail_if_success (with_reducible first | intro _ | refine st_and ?_ | refine st_ex ?_ | refine st_ex1 ?_ | refine st_eq ?_ | refine st_cr ?_ | refine st_td ?_ | refine st_tl ?_ | refine st_tt ?_ | refine st_tz ?_ | refine st_bs ?_ | refine st_ba ?_ | refine st_bp ?_ | refine st_bu ?_ | refine st_bg ?_ | refine st_sn ?_ | refine st_fo ?_ | refine st_al ?_ | refine st_ad ?_ | refine st_el ?_ | refine st_ed ?_ | refine st_cNq ?_ | refine st_cIn ?_ | refine st_cNn ?_)); walk1) | (leave1; walk_say "STEP leave1"; try dsimp only)) | fail "no step")); (try k_sweep); ((try (with_reducible rename Fr _ _ _ _ => F)); (try (with_reducible rename News _ _ _ _ => N))))
      obtain ⟨ys, hl, _, hr⟩ := J15.out
      rw [hlen11, List.take_length, deeds_eq] at hr
      exact hQ _ _ _ ys J15.base hlf0 hl hr
end
theorem str_nb (a b : Str) : (a.cps.toList != b.cps.toList) = !eqB a b := by
  by_cases h : a = b
  · subst h; rw [eqB_self]; simp
  · rw [eqB_false.mpr h]
    have : a.cps.toList ≠ b.cps.toList := fun q => h (by cases a; cases b; simp at q; simpa using q)
    simpa using this
theorem ne_strB {prog : Program} {w : World} {A : Around} {E : Value → Shared → Prop} {s : Shared} {x y : Str} {t u : Tok} {Q : Value → Shared → Prop} (h : Q (.bool (!eqB x y)) s) : wpAny (model prog w) A (compareOp .NotEq (.str x t) (.str y u)) Q E s := by
  refine PyProof.Rows.ne_str ?_
  have e : (x != y) = !eqB x y := by
    by_cases hxy : x = y
    · subst hxy; rw [eqB_self]; simp
    · rw [eqB_false.mpr hxy]; simpa using hxy
  rw [e]; exact h
theorem dueD_len (r1 r2 : Row) : (dueD r1 r2).length ≤ 5 := by
  unfold dueD diffs
  rw [List.length_map]
  have h2 := List.length_filterMap_le (fun i => if eqB (r1 i) (r2 i) = true then none else some i) (List.range 5)
  simpa using h2
theorem news_pl {h₀ h : Heap} {L a : Addr} {m : Str → Option Value} {vs : Array Value} (F : Fr h₀ L h m) (hl : h.PlainList a vs) (h0 : h₀.get? a = none) : ∃ n, News h₀ L h [(a, W.listOf vs n)] := by
  obtain ⟨n, e⟩ := id hl
  exact ⟨n, news_cons (news0 F) e (pl_ne_ns F.ns hl) h0⟩
section
variable {w : World} {mg mb : Str → Option Value} {A : Around} {s : Shared} {Q : Value → Shared → Prop}
set_option maxHeartbeats 4000000 in
theorem own_call (hh : A.handled = none) (hdp : A.depth + 10 < recursionLimit) (hu : A.units + 220 < cLine) (G : G0 w mg mb s.heap) {va vb : Value} {kd wo kd2 wo2 : Str} {r1 r2 : Row} (ra : RdT s.heap va (formD kd wo r1)) (rb : RdT s.heap vb (formD kd2 wo2 r2)) (ok1 : RowOk r1) (ok2 : RowOk r2)
    (hQ : ∀ h' tk t, Kp s.heap h' → Q (.int ((if wo = wo2 then 0 else 1) + ((dueD r1 r2).length : Int)) t) { s with heap := h', toks := tk }) :
    wpAny (model PySem.Challenge.rw_xm0645_01.row.prog w) A (call (.ref 26) [va, vb]) Q F0 s := by
  obtain ⟨a, x0, x1, x2, t, x4, vs, rfl, hta, htr, hra, hx2⟩ := form_inv ra
  obtain ⟨b, y0, y1, y2, u, y4, us, rfl, htb, hur, hrb, hy2⟩ := form_inv rb
  obtain ⟨t1, rfl⟩ := hx2.str_inv
  obtain ⟨t2, rfl⟩ := hy2.str_inv
  (refine wpAny_call ?_; refine call_pos_ret (by omega) ((G).K 26 _ rfl) rfl (G).T.nolimit (codeRec_of (G).K rfl) rfl (locs rfl) ?_; intro h₁ F; have X := (G).K; have T := (G).T; have N := news0 F)
  ((repeat' (first | (k_unfold; (try dsimp only)) | (k_end; fail) | ((fail_if_success (with_reducible first | intro _ | refine st_and ?_ | refine st_ex ?_ | refine st_ex1 ?_ | refine st_eq ?_ | refine st_cr ?_ | refine st_td ?_ | refine st_tl ?_ | refine st_tt ?_ | refine st_tz ?_ | refine st_bs ?_ | refine st_ba ?_ | refine st_bp ?_ | refine st_bu ?_ | refine st_bg ?_ | refine st_sn ?_ | refine st_fo ?_ | refine st_al ?_ | refine st_ad ?_ | refine st_el ?_ | refine st_ed ?_ | refine st_cNq ?_ | refine st_cIn ?_ | refine st_cNn ?_)); first | walk1 | (dsimp only; (fail_if_success (with_reducible first | intro _ | refine st_and ?_ | refine st_ex ?_ | refine st_ex1 ?_ | refine st_eq ?_ | refine st_cr ?_ | refine st_td ?_ | refine st_tl ?_ | refine st_tt ?_ | refine st_tz ?_ | refine st_bs ?_ | refine st_ba ?_ | refine st_bp ?_ | refine st_bu ?_ | refine st_bg ?_ | refine st_sn ?_ | refine st_fo ?_ | refine st_al ?_ | refine st_ad ?_ | refine st_el ?_ | refine st_ed ?_ | refine st_cNq ?_ | refine st_cIn ?_ | refine st_cNn ?_)); walk1) | (leave1; walk_say "STEP leave1"; try dsimp only)) | fail "no step")); (try k_sweep); ((try (with_reducible rename Fr _ _ _ _ => F)); (try (with_reducible rename News _ _ _ _ => N))))
  refine ne_strB ?_
  cases hw : eqB wo wo2 with
  | true =>
    rw [show (!true) = false from rfl]
    ((repeat' (first | (k_unfold; (try dsimp only)) | (k_end; fail) | ((fail_if_success (with_reducible first | intro _ | refine st_and ?_ | refine st_ex ?_ | refine st_ex1 ?_ | refine st_eq ?_ | refine st_cr ?_ | refine st_td ?_ | refine st_tl ?_ | refine st_tt ?_ | refine st_tz ?_ | refine st_bs ?_ | refine st_ba ?_ | refine st_bp ?_ | refine st_bu ?_ | refine st_bg ?_ | refine st_sn ?_ | refine st_fo ?_ | refine st_al ?_ | refine st_ad ?_ | refine st_el ?_ | refine st_ed ?_ | refine st_cNq ?_ | refine st_cIn ?_ | refine st_cNn ?_)); first | walk1 | (dsimp only; (fail_if_success (with_reducible first | intro _ | refine st_and ?_ | refine st_ex ?_ | refine st_ex1 ?_ | refine st_eq ?_ | refine st_cr ?_ | refine st_td ?_ | refine st_tl ?_ | refine st_tt ?_ | refine st_tz ?_ | refine st_bs ?_ | refine st_ba ?_ | refine st_bp ?_ | refine st_bu ?_ | refine st_bg ?_ | refine st_sn ?_ | refine st_fo ?_ | refine st_al ?_ | refine st_ad ?_ | refine st_el ?_ | refine st_ed ?_ | refine st_cNq ?_ | refine st_cIn ?_ | refine st_cNn ?_)); walk1) | (leave1; walk_say "STEP leave1"; try dsimp only)) | fail "no step")); (try k_sweep); ((try (with_reducible rename Fr _ _ _ _ => F)); (try (with_reducible rename News _ _ _ _ => N))))
    refine ⟨fun a o e => F.keep _ _ (X a o e), ?_⟩
    have F9 := F.keep
    ((try (with_reducible show wpAny _ _ _ _ _ _)); (try dsimp only))
    k_fold
    refine anyE (unlike_call (mg := mg) (mb := mb) (kd := kd) (wo := wo) (kd2 := kd2) (wo2 := wo2) ?hh ?hd ?hu ?hG ?hra ?hrb ok1 ok2 ?_)
    case hh => exact hh
    case hd => rw [depth_deeper]; omega
    case hu => rw [units_deeper]; omega
    case hG => exact G.keep F.keep
    case hra => exact ra.keep F.keep
    case hrb => exact rb.keep F.keep
    intro h2 tk2 D ys kp2 hD hpl hys
    have F := F.keeps kp2
    have hD0 : s.heap.get? D = none := by
      cases e : s.heap.get? D with
      | none => rfl
      | some o => have e' := F9 _ _ e; rw [hD] at e'; cases e'
    clear N
    obtain ⟨nn, N⟩ := news_pl F hpl hD0
    ((try (with_reducible show wpAny _ _ _ _ _ _)); (try dsimp only))
    ((repeat' (first | (k_unfold; (try dsimp only)) | (k_end; fail) | ((fail_if_success (with_reducible first | intro _ | refine st_and ?_ | refine st_ex ?_ | refine st_ex1 ?_ | refine st_eq ?_ | refine st_cr ?_ | refine st_td ?_ | refine st_tl ?_ | refine st_tt ?_ | refine st_tz ?_ | refine st_bs ?_ | refine st_ba ?_ | refine st_bp ?_ | refine st_bu ?_ | refine st_bg ?_ | refine st_sn ?_ | refine st_fo ?_ | refine st_al ?_ | refine st_ad ?_ | refine st_el ?_ | refine st_ed ?_ | refine st_cNq ?_ | refine st_cIn ?_ | refine st_cNn ?_)); first | walk1 | (dsimp only; (fail_if_success (with_reducible first | intro _ | refine st_and ?_ | refine st_ex ?_ | refine st_ex1 ?_ | refine st_eq ?_ | refine st_cr ?_ | refine st_td ?_ | refine st_tl ?_ | refine st_tt ?_ | refine st_tz ?_ | refine st_bs ?_ | refine st_ba ?_ | refine st_bp ?_ | refine st_bu ?_ | refine st_bg ?_ | refine st_sn ?_ | refine st_fo ?_ | refine st_al ?_ | refine st_ad ?_ | refine st_el ?_ | refine st_ed ?_ | refine st_cNq ?_ | refine st_cIn ?_ | refine st_cNn ?_)); walk1) | (leave1; walk_say "STEP leave1"; try dsimp only)) | fail "no step")); (try k_sweep); ((try (with_reducible rename Fr _ _ _ _ => F)); (try (with_reducible rename News _ _ _ _ => N))))
    have hl := hys.length
    have h5 := dueD_len r1 r2
    refine call_len_list hpl.isList (by rw [List.size_toArray]; omega) ?_
    ((repeat' (first | (k_unfold; (try dsimp only)) | (k_end; fail) | ((fail_if_success (with_reducible first | intro _ | refine st_and ?_ | refine st_ex ?_ | refine st_ex1 ?_ | refine st_eq ?_ | refine st_cr ?_ | refine st_td ?_ | refine st_tl ?_ | refine st_tt ?_ | refine st_tz ?_ | refine st_bs ?_ | refine st_ba ?_ | refine st_bp ?_ | refine st_bu ?_ | refine st_bg ?_ | refine st_sn ?_ | refine st_fo ?_ | refine st_al ?_ | refine st_ad ?_ | refine st_el ?_ | refine st_ed ?_ | refine st_cNq ?_ | refine st_cIn ?_ | refine st_cNn ?_)); first | walk1 | (dsimp only; (fail_if_success (with_reducible first | intro _ | refine st_and ?_ | refine st_ex ?_ | refine st_ex1 ?_ | refine st_eq ?_ | refine st_cr ?_ | refine st_td ?_ | refine st_tl ?_ | refine st_tt ?_ | refine st_tz ?_ | refine st_bs ?_ | refine st_ba ?_ | refine st_bp ?_ | refine st_bu ?_ | refine st_bg ?_ | refine st_sn ?_ | refine st_fo ?_ | refine st_al ?_ | refine st_ad ?_ | refine st_el ?_ | refine st_ed ?_ | refine st_cNq ?_ | refine st_cIn ?_ | refine st_cNn ?_)); walk1) | (leave1; walk_say "STEP leave1"; try dsimp only)) | fail "no step")); (try k_sweep); ((try (with_reducible rename Fr _ _ _ _ => F)); (try (with_reducible rename News _ _ _ _ => N))))
    have q := fun tk t => hQ h2 tk t F.keep
    rw [if_pos (eqB_true.mp hw), ← hl] at q
    trace_state
    exact q _ _
  | false =>
    rw [show (!false) = true from rfl]
    ((repeat' (first | (k_unfold; (try dsimp only)) | (k_end; fail) | ((fail_if_success (with_reducible first | intro _ | refine st_and ?_ | refine st_ex ?_ | refine st_ex1 ?_ | refine st_eq ?_ | refine st_cr ?_ | refine st_td ?_ | refine st_tl ?_ | refine st_tt ?_ | refine st_tz ?_ | refine st_bs ?_ | refine st_ba ?_ | refine st_bp ?_ | refine st_bu ?_ | refine st_bg ?_ | refine st_sn ?_ | refine st_fo ?_ | refine st_al ?_ | refine st_ad ?_ | refine st_el ?_ | refine st_ed ?_ | refine st_cNq ?_ | refine st_cIn ?_ | refine st_cNn ?_)); first | walk1 | (dsimp only; (fail_if_success (with_reducible first | intro _ | refine st_and ?_ | refine st_ex ?_ | refine st_ex1 ?_ | refine st_eq ?_ | refine st_cr ?_ | refine st_td ?_ | refine st_tl ?_ | refine st_tt ?_ | refine st_tz ?_ | refine st_bs ?_ | refine st_ba ?_ | refine st_bp ?_ | refine st_bu ?_ | refine st_bg ?_ | refine st_sn ?_ | refine st_fo ?_ | refine st_al ?_ | refine st_ad ?_ | refine st_el ?_ | refine st_ed ?_ | refine st_cNq ?_ | refine st_cIn ?_ | refine st_cNn ?_)); walk1) | (leave1; walk_say "STEP leave1"; try dsimp only)) | fail "no step")); (try k_sweep); ((try (with_reducible rename Fr _ _ _ _ => F)); (try (with_reducible rename News _ _ _ _ => N))))
    refine ⟨fun a o e => F.keep _ _ (X a o e), ?_⟩
    have F9 := F.keep
    ((try (with_reducible show wpAny _ _ _ _ _ _)); (try dsimp only))
    k_fold
    refine anyE (unlike_call (mg := mg) (mb := mb) (kd := kd) (wo := wo) (kd2 := kd2) (wo2 := wo2) ?hh ?hd ?hu ?hG ?hra ?hrb ok1 ok2 ?_)
    case hh => exact hh
    case hd => rw [depth_deeper]; omega
    case hu => rw [units_deeper]; omega
    case hG => exact G.keep F.keep
    case hra => exact ra.keep F.keep
    case hrb => exact rb.keep F.keep
    intro h2 tk2 D ys kp2 hD hpl hys
    have F := F.keeps kp2
    have hD0 : s.heap.get? D = none := by
      cases e : s.heap.get? D with
      | none => rfl
      | some o => have e' := F9 _ _ e; rw [hD] at e'; cases e'
    clear N
    obtain ⟨nn, N⟩ := news_pl F hpl hD0
    ((try (with_reducible show wpAny _ _ _ _ _ _)); (try dsimp only))
    ((repeat' (first | (k_unfold; (try dsimp only)) | (k_end; fail) | ((fail_if_success (with_reducible first | intro _ | refine st_and ?_ | refine st_ex ?_ | refine st_ex1 ?_ | refine st_eq ?_ | refine st_cr ?_ | refine st_td ?_ | refine st_tl ?_ | refine st_tt ?_ | refine st_tz ?_ | refine st_bs ?_ | refine st_ba ?_ | refine st_bp ?_ | refine st_bu ?_ | refine st_bg ?_ | refine st_sn ?_ | refine st_fo ?_ | refine st_al ?_ | refine st_ad ?_ | refine st_el ?_ | refine st_ed ?_ | refine st_cNq ?_ | refine st_cIn ?_ | refine st_cNn ?_)); first | walk1 | (dsimp only; (fail_if_success (with_reducible first | intro _ | refine st_and ?_ | refine st_ex ?_ | refine st_ex1 ?_ | refine st_eq ?_ | refine st_cr ?_ | refine st_td ?_ | refine st_tl ?_ | refine st_tt ?_ | refine st_tz ?_ | refine st_bs ?_ | refine st_ba ?_ | refine st_bp ?_ | refine st_bu ?_ | refine st_bg ?_ | refine st_sn ?_ | refine st_fo ?_ | refine st_al ?_ | refine st_ad ?_ | refine st_el ?_ | refine st_ed ?_ | refine st_cNq ?_ | refine st_cIn ?_ | refine st_cNn ?_)); walk1) | (leave1; walk_say "STEP leave1"; try dsimp only)) | fail "no step")); (try k_sweep); ((try (with_reducible rename Fr _ _ _ _ => F)); (try (with_reducible rename News _ _ _ _ => N))))
    have hl := hys.length
    have h5 := dueD_len r1 r2
    refine call_len_list hpl.isList (by rw [List.size_toArray]; omega) ?_
    ((repeat' (first | (k_unfold; (try dsimp only)) | (k_end; fail) | ((fail_if_success (with_reducible first | intro _ | refine st_and ?_ | refine st_ex ?_ | refine st_ex1 ?_ | refine st_eq ?_ | refine st_cr ?_ | refine st_td ?_ | refine st_tl ?_ | refine st_tt ?_ | refine st_tz ?_ | refine st_bs ?_ | refine st_ba ?_ | refine st_bp ?_ | refine st_bu ?_ | refine st_bg ?_ | refine st_sn ?_ | refine st_fo ?_ | refine st_al ?_ | refine st_ad ?_ | refine st_el ?_ | refine st_ed ?_ | refine st_cNq ?_ | refine st_cIn ?_ | refine st_cNn ?_)); first | walk1 | (dsimp only; (fail_if_success (with_reducible first | intro _ | refine st_and ?_ | refine st_ex ?_ | refine st_ex1 ?_ | refine st_eq ?_ | refine st_cr ?_ | refine st_td ?_ | refine st_tl ?_ | refine st_tt ?_ | refine st_tz ?_ | refine st_bs ?_ | refine st_ba ?_ | refine st_bp ?_ | refine st_bu ?_ | refine st_bg ?_ | refine st_sn ?_ | refine st_fo ?_ | refine st_al ?_ | refine st_ad ?_ | refine st_el ?_ | refine st_ed ?_ | refine st_cNq ?_ | refine st_cIn ?_ | refine st_cNn ?_)); walk1) | (leave1; walk_say "STEP leave1"; try dsimp only)) | fail "no step")); (try k_sweep); ((try (with_reducible rename Fr _ _ _ _ => F)); (try (with_reducible rename News _ _ _ _ => N))))
    have q := fun tk t => hQ h2 tk t F.keep
    rw [if_neg (eqB_false.mp hw), ← hl] at q
    trace_state
    exact q _ _
end
section
variable {prog : Program} {w : World} {A : Around}
theorem dictOfH_tq {h h' : Heap} {d : Addr} {xs : List (List Str × Addr × Value)} (hm : h.DictOfH (kt prog w) d xs) (hd : ∀ o, h.get? d = some o → h'.get? d = some o) (hk : ∀ y ∈ xs, ∀ o, h.get? y.2.1 = some o → h'.get? y.2.1 = some o) : h'.DictOfH (kt prog w) d xs := by
  obtain ⟨o, es, ep, ho, hx, hd', hes, his, hn⟩ := hm
  exact ⟨o, es, ep, hd _ ho, hx, hd', hes, fun x hx => (let ⟨o, it, n, ho, q⟩ := his x hx; ⟨o, it, n, hk x hx _ ho, q⟩), hn⟩

theorem dc_val {x : Str} {px : Pos} {kx vx iter : Expr} {scope : Scope} {cl : List (Str × Addr)} {pos : Pos} {env : Env} {s : Shared} {Q : Value → Shared → Prop} (hu : A.units + 1 < cLine)
    (h : wpAny (model prog w) A (eval iter env) (fun xv s₁ => ∃ (n : Nat) (Bd : Nat → (Str → Option Value) → (Str → Option Value) → Prop) (xs : List (List Str × Addr × Value)) (g : Heap),
      wpAny (model prog w) A (pyIter xv) (Drawn prog w A (.Name x px) (fun C => compEnvC scope cl C env) (fun _ => False) n Bd g s₁) F0 s₁ ∧ n ≤ sizeLine ∧ xs.length = n ∧ (xs.map (·.1)).Nodup ∧ (∀ y ∈ xs, (kt prog w).is g y.1 y.2.1) ∧
      (∀ i y (s : Shared) m₀ m C, xs[i]? = some y → Bd i m₀ m → s.heap.Ns C m → Kp g s.heap → wpAny (model prog w) A (eval kx (compEnvC scope cl C env)) (fun v s' => Keeps s s' ∧ v = .ref y.2.1) F0 s) ∧
      (∀ i y (s : Shared) m₀ m C, xs[i]? = some y → Bd i m₀ m → s.heap.Ns C m → Kp g s.heap → wpAny (model prog w) A (eval vx (compEnvC scope cl C env)) (fun v s' => Keeps s s' ∧ v = y.2.2) F0 s) ∧
      (∀ h' tk D, (∀ b o, g.get? b = some o → b < D) → h'.DictOfH (kt prog w) D xs → Kp g h' → Q (.ref D) { s₁ with heap := h', toks := tk })) F0 s)
    (hclos : closureFor scope env = pure cl) (hcell : ∀ y ∈ scope.names, y.2 ≠ .cell) (hkind : scope.kind = .function) (hnames : ∀ x ∈ scope.names, x.2 = .local → scope.names.lookup x.1 = some .local)
    (hs : ∀ x, foldedSetIterable iter env x = pure x := by intro _; rfl) :
    wpAny (model prog w) A (eval (.DictComp kx vx [⟨.Name x px, iter, [], 0⟩] scope pos) env) Q F0 s := by
  rw [arm_eval_DictComp]
  refine wpAny_comprehension_free (use := none) rfl hs hclos hkind hnames (wpAny_mono h (fun xv s₁ h₁ => ?_) F0_mono)
  obtain ⟨n, Bd, xs, g, hi, hn, hlen, hnd, his, keys, vals, fin⟩ := h₁
  refine wpAny_mono hi (fun it s₂ h₂ => ?_) F0_mono
  obtain ⟨I, W, RD, St, rfl, It, hst, hRD, hU, hW, ⟨h₂, tk₂, rfl⟩, kp⟩ := h₂
  have kp' : Kp g h₂ := kp
  have nW : ∀ b o, g.get? b = some o → ¬ W b := fun b o e q => by rw [hW b q] at e; cases e
  have lt1 : ∀ (b : Nat) o, g.get? b = some o → b < h₂.objs.size := fun b o e => Heap.lt_size (kp' b o e)
  refine wpAny_newObj_type (wpAny_newFunctionEnv hcell (by intro y hy; simp at hy) (fun h₁ hns₁ hsb₁ => ?_) hkind)
  dsimp only at hns₁ hsb₁ ⊢
  obtain ⟨N2, hN2⟩ : ∃ N : Nat, N = h₂.objs.size := ⟨_, rfl⟩
  have hnew : (h₂.push { cls := .type "dict", dict := none, data := .dict #[] }).DictOfH (kt prog w) h₂.objs.size [] := Heap.DictOfH.new h₂
  generalize hH2 : h₂.push { cls := .type "dict", dict := none, data := .dict #[] } = H2 at hns₁ hsb₁ hnew ⊢
  have hC : H2.objs.size = N2 + 1 := by rw [← hH2, Heap.size_push, hN2]
  rw [hC] at hns₁ hsb₁ ⊢
  rw [← hN2] at hnew ⊢
  have ltN : ∀ (b : Nat) o, g.get? b = some o → b < N2 := fun b o e => hN2 ▸ lt1 b o e
  have old : ∀ b o, h₂.get? b = some o → h₁.get? b = some o := fun b o e => by
    have hb : (b : Nat) < N2 := by rw [hN2]; exact Heap.lt_size e
    have e1 : H2.get? b = some o := hH2 ▸ Heap.get?_push_of_some _ e
    exact hsb₁.extBut b o (Nat.ne_of_lt (Nat.lt_succ_of_lt hb)) (Heap.get?_push_of_some _ e1)
  have hacc : h₁.DictOfH (kt prog w) N2 (xs.take 0) := by
    rw [List.take_zero]
    exact dictOfH_tq hnew (fun o e => hsb₁.extBut _ o (Nat.ne_of_lt (Nat.lt_succ_self _)) (Heap.get?_push_of_some _ e)) fun y hy => nomatch hy
  have nRDC : ¬ RD (N2 + 1) := fun q => absurd (hRD _ q) (by show ¬ (N2 + 1 < h₂.objs.size); omega)
  have nRDD : ¬ RD N2 := fun q => absurd (hRD _ q) (by show ¬ (N2 < h₂.objs.size); omega)
  have nWC : ¬ W (N2 + 1) := fun q => nRDC (It.sub _ q)
  have nWD : ¬ W N2 := fun q => nRDD (It.sub _ q)
  have isAt : ∀ {h' : Heap}, Kp g h' → ∀ y ∈ xs, (kt prog w).is h' y.1 y.2.1 := fun k y hy => (let ⟨o, it, n, ho, q⟩ := his y hy; ⟨o, it, n, k _ _ ho, q⟩)
  have loop : ∀ s₃ : Shared, s₃ = { s₁ with heap := h₁, toks := tk₂ + ([] : List (Str × Value)).length } →
      codeAny (model prog w) A (.compLoop (.DictComp kx vx [⟨.Name x px, iter, [], 0⟩] scope pos) 0 (.ref I) (.ref N2) (compEnvC scope cl (N2 + 1) env)) (compPost (model prog w) A F0 none Q (.ref N2) (N2 + 1)) s₃ := by
    rintro s₃ rfl
    refine codeAny_compLoop_testsD (fun k s' => ∃ h' tk i m', s' = { s₁ with heap := h', toks := tk } ∧ i ≤ n ∧ k = n + 1 - i ∧ St i h' ∧ h'.Ns (N2 + 1) m' ∧ h'.DictOfH (kt prog w) N2 (xs.take i) ∧ Kp g h') ?_ (n + 1)
      ⟨h₁, _, 0, _, rfl, Nat.zero_le _, rfl, It.frame _ _ _ hst fun b o _ e => old b o e, hns₁, hacc, fun b o e => old b o (kp' b o e)⟩
    rintro k s' ⟨h', tk, i, m', rfl, hi, rfl, hst', hns', hd', hk⟩
    by_cases hlt : i < n
    · refine wpAny_mono (It.item i _ (N2 + 1) m' (fun _ s₂' => ∃ h₃ tk₃ m₃, s₂' = { s₁ with heap := h₃, toks := tk₃ } ∧ St (i + 1) h₃ ∧ h₃.Ns (N2 + 1) m₃ ∧ Bd i m' m₃ ∧ h₃.DictOfH (kt prog w) N2 (xs.take i) ∧ Kp g h₃) hlt hst' nRDC rfl hns'
        fun h₃ tk₃ m₃ st₃ hn₃ hB₃ hk₃ => ⟨h₃, tk₃, m₃, rfl, st₃, hn₃, hB₃, ?_, fun b o e => hk₃ b o (nW b o e) (Nat.ne_of_lt (Nat.lt_succ_of_lt (ltN b o e))) (hk b o e)⟩) ?_ F0_mono
      · refine dictOfH_tq hd' (fun o e => hk₃ _ o nWD (Nat.ne_of_lt (Nat.lt_succ_self _)) e) fun y hy o e => ?_
        obtain ⟨o', it, n', ho', _⟩ := his y (List.mem_of_mem_take hy)
        exact hk₃ _ o (nW _ _ ho') (Nat.ne_of_lt (Nat.lt_succ_of_lt (ltN _ _ ho'))) e
      intro r s₁' h₁'
      cases r with
      | none => exact h₁'.elim
      | some v =>
        have q0 : wpAny (model prog w) A (assign (.Name x px) (compEnvC scope cl (N2 + 1) env) v) (fun _ s₂' => ∃ h₃ tk₃ m₃, s₂' = { s₁ with heap := h₃, toks := tk₃ } ∧ St (i + 1) h₃ ∧ h₃.Ns (N2 + 1) m₃ ∧ Bd i m' m₃ ∧ h₃.DictOfH (kt prog w) N2 (xs.take i) ∧ Kp g h₃) F0 s₁' := by
          intro Γ p hΓ
          have := h₁' Γ p hΓ
          rw [show letOwnedTupleGo (.Name x px) (.ref I) v = Sem.pure () from rfl, Sem.wp_pure] at this
          exact this Γ p hΓ
        refine wpAny_mono q0 (fun _ s₃ h₃ => ?_) F0_mono
        obtain ⟨h₃, tk₃, m₃, rfl, st₃, hn₃, hB₃, hd₃, hk₃⟩ := h₃
        simp only [List.forIn_nil]
        refine wpAny_pure ?_
        simp only [if_true]
        have hix : i < xs.length := by omega
        refine wpAny_mono (keys i _ _ m' m₃ _ (List.getElem?_eq_getElem hix) hB₃ hn₃ hk₃) (fun kv s₄ h₄ => ?_) F0_mono
        obtain ⟨⟨h₄, tk₄, rfl, kp4⟩, rfl⟩ := h₄
        have kp4' : Kp h₃ h₄ := kp4
        refine wpAny_mono (vals i _ _ m' m₃ _ (List.getElem?_eq_getElem hix) hB₃ (hn₃.at' fun o e => kp4' _ o e) fun b o e => kp4' b o (hk₃ b o e)) (fun vv s₅ h₅ => ?_) F0_mono
        obtain ⟨⟨h₅, tk₅, rfl, kp5⟩, rfl⟩ := h₅
        have kp5' : Kp h₄ h₅ := kp5
        have kp35 : Kp h₃ h₅ := fun b o e => kp5' b o (kp4' b o e)
        have hd₅ : h₅.DictOfH (kt prog w) N2 (xs.take i) := dictOfH_tq hd₃ (fun o e => kp35 _ o e) fun y hy o e => kp35 _ o e
        refine wpAny_dictSet_heap (knd := kt prog w) (by show A.units < cLine; omega) (isAt (fun b o e => kp35 b o (hk₃ b o e)) _ (List.getElem_mem hix)) hd₅ (fun h₆ hm₆ hs₆ => ?_) (by rw [List.length_take]; omega)
        have hnew : atKey (xs.take i) (xs[i]).1 = none := by
          refine atKey_none_of_get fun j q hj => ?_
          have hjl : j < i := by
            have := (List.getElem?_eq_some_iff.mp hj).1
            rw [List.length_take] at this; omega
          have hj' : xs[j]? = some ((xs[i]).1, q) := by rw [List.getElem?_take] at hj; simpa [hjl] using hj
          exact absurd (idxH_unique hnd hj' (List.getElem?_eq_getElem (h := by omega))) (by omega)
        rw [storedH_new hnew] at hm₆
        have htake : xs.take i ++ [((xs[i]).1, (xs[i]).2.1, (xs[i]).2.2)] = xs.take (i + 1) := by rw [List.take_add_one, List.getElem?_eq_getElem (h := by omega)]; rfl
        rw [htake] at hm₆
        have kb : ∀ b o, b ≠ N2 → h₃.get? b = some o → h₆.get? b = some o := fun b o hb e => hs₆.extBut b o hb (kp35 b o e)
        exact ⟨n + 1 - (i + 1), by omega, h₆, _, i + 1, m₃, rfl, hlt, rfl, It.frame _ _ _ st₃ fun b o hb e => kb b o (fun q => nRDD (q ▸ hb)) e, hn₃.at' fun o e => kb _ o (Nat.succ_ne_self _) e, hm₆,
          fun b o e => kb b o (Nat.ne_of_lt (ltN b o e)) (hk₃ b o e)⟩
    · have hin : i = n := by omega
      subst hin
      refine wpAny_mono (It.done { s₁ with heap := h', toks := tk } _ hst' fun h₃ tk₃ hk₃ => ?_) (fun _ _ x => x) F0_mono
      have e : xs.take i = xs := List.take_of_length_le (by omega)
      rw [e] at hd'
      refine ⟨m', hns'.at' fun o e => hk₃ _ o nWC e, fun h'' hs'' => ?_⟩
      have kk : Kp g h'' := fun b o e => hs''.extBut b o (Nat.ne_of_lt (Nat.lt_succ_of_lt (ltN b o e))) (hk₃ b o (nW b o e) (hk b o e))
      refine fin h'' _ N2 (fun b o e => ltN b o e) (dictOfH_tq hd' (fun o e => hs''.extBut _ o (Nat.ne_of_lt (Nat.lt_succ_self _)) (hk₃ _ o nWD e)) fun y hy o e => ?_) kk
      obtain ⟨o', it, n', ho', _⟩ := his y hy
      exact hs''.extBut _ o (Nat.ne_of_lt (Nat.lt_succ_of_lt (ltN _ _ ho'))) (hk₃ _ o (nW _ _ ho') e)
  refine codeAny_compStart_dict (loop _ rfl) ?_
  exact wpAny_mono (It.self _ (fun it' s' => codeAny (model prog w) A (.compLoop (.DictComp kx vx [⟨.Name x px, iter, [], 0⟩] scope pos) 0 it' (.ref N2) (compEnvC scope cl (N2 + 1) env)) (compPost (model prog w) A F0 none Q (.ref N2) (N2 + 1)) s')
    (It.frame _ _ _ hst fun b o _ e => old b o e) (loop _ rfl)) (fun _ _ x => x) F0_mono
end
theorem map_erase {α β : Type} (f : α → β) : ∀ (l : List α) (j : Nat), (l.eraseIdx j).map f = (l.map f).eraseIdx j
  | [], _ => rfl
  | a :: l, 0 => rfl
  | a :: l, j + 1 => by simp [map_erase f l j]
section
variable {prog : Program} {w : World} {A : Around} {s : Shared} {d a : Addr} {k : List Str} {xs : List (List Str × Addr × Value)}

theorem pop_heap {j : Nat} {p : Addr × Value} {Q : Value → Shared → Prop} (hu : A.units + 2 < cLine) (hkey : (kt prog w).is s.heap k a) (hm : s.heap.DictOfH (kt prog w) d xs) (hj : xs[j]? = some (k, p)) (hlen : xs.length ≤ sizeLine)
    (hQ : ∀ h' tk, h'.DictOfH (kt prog w) d (xs.eraseIdx j) → Heap.SameBut d s.heap h' → Q p.2 { s with heap := h', toks := tk }) :
    wpAny (model prog w) A (call (.builtin "dict.pop") [.ref d, .ref a]) Q F0 s := by
  refine wpAny_call_entry PySem.F.slot_dict_pop hm.typeIs PySem.F.entry_dict_pop ?_ (PySem.F.args_dict_pop_2 _ _)
  have hT := hm.typeIs
  obtain ⟨o, es, ep, ho, hc, hd, he, his, hn⟩ := hm
  have hsz : es.size = xs.length := size_of_entries he
  have hjl : j < xs.length := (List.getElem?_eq_some_iff.mp hj).1
  unfold Builtin.«dict.pop»
  refine wpAny_bind ?_
  unfold Builtin.Dict.keyAndDefault
  refine wpAny_bind (wpAny_notOrdered_dict hT ?_)
  show wpAny _ _ (pure (d, Value.ref a, none)) _ _ s
  refine wpAny_pure ?_
  dsimp only
  rw [if_neg (show ¬ ((keyPart (Value.ref a)).isSome = true) from by simp [keyPart])]
  refine wpAny_bind (wpAny_dictEntries ho hd ?_)
  refine wpAny_bind (wpAny_pure ?_)
  have hne : es.isEmpty = false := by
    rw [Array.isEmpty_eq_false_iff]
    intro q; rw [q] at hsz; simp at hsz; omega
  rw [hne]
  simp only [Bool.false_eq_true, if_false]
  refine wpAny_bind ?_
  unfold Builtin.Dict.takeOut
  try with_reducible refine wpAny_holding ?_
  refine wpAny_bind ((kt prog w).pyHash (by show A.units + 1 < cLine; omega) hkey ?_)
  refine wpAny_bind (wpAny_dictFind_heap (s := { s with toks := s.toks + (kt prog w).draws k }) (by show A.units + 1 < cLine; omega) hkey ho hd he his hn (fun q => absurd hj (q j p)) fun j' p' hj' => ?_)
  obtain rfl : j' = j := idxH_unique hn hj' hj
  refine wpAny_bind (wpAny_dictEntries (s := { s with toks := s.toks + (kt prog w).draws k }) ho hd ?_)
  have he' : es[j']? = some (entryOfKey (kt prog w) (k, p)) := by
    rw [← Array.getElem?_toList, he, List.getElem?_map, hj]; rfl
  rw [he']
  refine wpAny_bind (wpAny_updateDictKeys (hz := by omega) (s := { s with toks := s.toks + (kt prog w).draws k }) ho hd (wpAny_pure ?_))
  simp only [Option.isNone_some, Bool.false_eq_true, if_false]
  refine wpAny_bind (wpAny_letGo (wpAny_pure ⟨_, rfl, ?_⟩))
  refine hQ _ _ ⟨_, _, ep + 1, Heap.get?_update_self _ ho (Obj.isFreed_of_dict (Obj.data_mapDictKeys hd _)), hc.mapDictKeys _, Obj.data_mapDictKeys hd _, ?_, ?_, ?_⟩ (Heap.SameBut.update ..)
  · rw [map_erase, ← he]
    obtain ⟨l⟩ := es
    simp
  · intro x hx
    exact (kt prog w).keeps (his x (List.mem_of_mem_eraseIdx hx)) ho hd (Heap.SameBut.update ..)
  · rw [map_erase]
    exact hn.sublist (List.eraseIdx_sublist _ _)

theorem setHashed_heap {v : Value} {Q : Unit → Shared → Prop} (hu : A.units < cLine) (hkey : (kt prog w).is s.heap k a) (hm : s.heap.DictOfH (kt prog w) d xs)
    (hQ : ∀ h', h'.DictOfH (kt prog w) d (storedH xs k a v) → Heap.SameBut d s.heap h' → Q () { s with heap := h' })
    (hsz : xs.length ≤ sizeLine) :
    wpAny (model prog w) A (dictSetHashed d (.ref a) ((kt prog w).hash k) v) Q F0 s := by
  obtain ⟨o, es, ep, ho, hc, hd, he, his, hn⟩ := hm
  unfold dictSetHashed
  try with_reducible refine wpAny_holding ?_
  refine wpAny_bind (wpAny_dictFind_heap (by exact hu) hkey ho hd he his hn ?_ ?_)
  · intro hno
    have hnot : k ∉ xs.map (·.1) := not_mem_keys_of_get hno
    refine wpAny_bind (wpAny_rule (wpAny_updateDictKeys (hz := by have e := size_of_entries he; omega) ho hd (hQ _ ⟨_, _, ep + 1, Heap.get?_update_self _ ho (Obj.isFreed_of_dict (Obj.data_mapDictKeys hd _)),
      hc.mapDictKeys _, Obj.data_mapDictKeys hd _, ?_, ?_, ?_⟩ (Heap.SameBut.update ..))))
    · rw [storedH_new (atKey_none_of_get hno)]
      simp [he, entryOfKey]
    · rw [storedH_new (atKey_none_of_get hno)]
      intro x hx
      rcases List.mem_append.mp hx with hx | hx
      · exact (kt prog w).keeps (his x hx) ho hd (Heap.SameBut.update ..)
      · simp only [List.mem_singleton] at hx
        subst hx
        exact (kt prog w).keeps hkey ho hd (Heap.SameBut.update ..)
    · rw [storedH_new (atKey_none_of_get hno)]
      rw [List.map_append, List.nodup_append]
      refine ⟨hn, by simp, ?_⟩
      intro x hx y hy
      simp only [List.map_cons, List.map_nil, List.mem_singleton] at hy
      subst hy
      exact fun e => hnot (e ▸ hx)
  · intro j p hj
    refine wpAny_bind (wpAny_rule (wpAny_bind (wpAny_updateDict ho hd (wpAny_point (hQ _ ⟨_, _, ep, Heap.get?_update_self _ ho (Obj.isFreed_of_dict (Obj.data_mapDict hd _)),
      hc.mapDict _, Obj.data_mapDict hd _, ?_, ?_, ?_⟩ (Heap.SameBut.update ..))))))
    · rw [storedH_old (atKey_of_get hn hj)]
      have := modify_map_putAt (entryOfKey (kt prog w)) (fun e : DictEntry => { e with val := v }) k v (fun _ _ => rfl) hn hj
      rw [← he] at this
      obtain ⟨l⟩ := es
      simpa using this
    · rw [storedH_old (atKey_of_get hn hj)]
      intro x hx
      obtain ⟨y, hy, rfl⟩ := List.mem_map.mp hx
      unfold putAt
      split <;> exact (kt prog w).keeps (his y hy) ho hd (Heap.SameBut.update ..)
    · rw [storedH_old (atKey_of_get hn hj)]
      rw [keys_map_putAt]; exact hn

theorem update_heap {d2 : Addr} {v : Value} {Q : Value → Shared → Prop} (hu : A.units + 2 < cLine) (hne : d ≠ d2) (lo2 : (d2 == sysModules) = false) (hm : s.heap.DictOfH (kt prog w) d xs) (hm2 : s.heap.DictOfH (kt prog w) d2 [(k, a, v)]) (hlen : xs.length ≤ sizeLine)
    (hQ : ∀ h' tk, h'.DictOfH (kt prog w) d (storedH xs k a v) → Heap.SameBut d s.heap h' → Q .none { s with heap := h', toks := tk }) :
    wpAny (model prog w) A (call (.builtin "dict.update") [.ref d, .ref d2]) Q F0 s := by
  refine wpAny_call_entry PySem.F.slot_dict_update hm.typeIs PySem.F.entry_dict_update ?_ (PySem.F.args_dict_update_2 _ _)
  have hT := hm.typeIs
  have hT2 := hm2.typeIs
  have hmd := hm
  obtain ⟨o, es, ep, ho, hc, hd, he, his, hn⟩ := hm
  obtain ⟨o2, es2, ep2, ho2, hc2, hd2, he2, his2, hn2⟩ := hm2
  have hes2 : es2 = #[entryOfKey (kt prog w) (k, a, v)] := by
    apply Array.toList_inj.mp; rw [he2]; rfl
  subst hes2
  have hkey := his2 _ (List.mem_singleton.mpr rfl)
  unfold Builtin.«dict.update»
  refine wpAny_bind ?_
  unfold Builtin.Dict.selfAndRest
  refine wpAny_bind (wpAny_notOrdered_dict hT ?_)
  show wpAny _ _ (pure (d, [Value.ref d2])) _ _ s
  refine wpAny_pure ?_
  show wpAny _ _ (Builtin.Dict.updateFrom "dict.update" d (.ref d2) [] .none) _ _ s
  unfold Builtin.Dict.updateFrom
  refine wpAny_bind (wpAny_typeOf hT2 ?_)
  rw [if_neg (by decide)]
  refine wpAny_bind ?_
  unfold Builtin.Dict.merge
  refine wpAny_bind ?_
  unfold Builtin.Dict.readDirectly
  refine wpAny_bind (wpAny_isInstance (b := true) hT2 (by rw [isSubtype_type]; kernel_rfl) ?_)
  simp only [Bool.not_true, Bool.false_eq_true, if_false]
  refine wpAny_bind (wpAny_specialOf hT2 PySem.F.slot_dict_iter.lookup (wpAny_pure ?_))
  simp only [show ((some (Value.builtin "dict.__iter__") : Option Value) == some (Value.builtin "dict.__iter__")) = true from by simp, if_true]
  show wpAny _ _ (Builtin.Dict.mergeDict "dict.update" d d2) _ _ s
  unfold Builtin.Dict.mergeDict
  rw [if_neg (by simpa using hne)]
  refine wpAny_bind ?_
  unfold Builtin.Dict.showsAll
  rw [if_neg (by rw [lo2]; exact Bool.false_ne_true)]
  refine wpAny_pure ?_
  refine wpAny_bind (wpAny_dictEntries ho2 hd2 ?_)
  have hfew : (decide ((#[entryOfKey (kt prog w) (k, a, v)] : Array DictEntry).size ≤ 8) && (#[entryOfKey (kt prog w) (k, a, v)] : Array DictEntry).all fun e => (keyPart e.key).isSome) = false := by
    simp [entryOfKey, keyPart]
  dsimp only
  rw [hfew]
  simp only [Bool.not_false, if_true]
  refine wpAny_bind (wpAny_dictEntries ho hd ?_)
  have tail : ∀ (s' : Shared), (∃ h' tk, s' = { s with heap := h', toks := tk } ∧ h'.DictOfH (kt prog w) d (storedH xs k a v) ∧ Heap.SameBut d s.heap h') →
      wpAny (model prog w) A.in1 (do Builtin.Dict.addKeywords d []; ret Value.none) (fun fin s' => ∃ v, fin = PySem.Fin.done (.ret v) ∧ Q v s') F0 s' := by
    rintro s' ⟨h', tk, rfl, hm', hs'⟩
    refine wpAny_bind ?_
    show wpAny _ _ (pure ()) _ _ _
    exact wpAny_pure (wpAny_pure ⟨_, rfl, hQ h' tk hm' hs'⟩)
  by_cases hem : es.isEmpty = true
  · rw [if_pos hem]
    have hx0 : xs = [] := by
      have := size_of_entries he
      rw [Array.isEmpty_iff] at hem
      rw [hem] at this
      exact List.length_eq_zero_iff.mp (by simpa using this.symm)
    refine wpAny_bind ?_
    unfold Builtin.Dict.entriesForEmpty
    refine wpAny_bind (wpAny_dictEntries ho2 hd2 ?_)
    have hq : wpAny (model prog w) A.in1 (Builtin.Dict.quietEq (entryOfKey (kt prog w) (k, a, v)).key) (fun b s' => b = false ∧ s' = s) F0 s := by
      show wpAny _ _ (do return (← specialOf (.ref a) "__eq__") == some (.builtin "object.__eq__")) _ _ s
      obtain ⟨o', it, n, ho', hc', _⟩ := hkey
      exact wpAny_bind (wpAny_specialOf ⟨_, ho', hc'⟩ PySem.F.slot_tuple_eq.lookup (wpAny_pure ⟨by decide, rfl⟩))
    rw [← Array.forIn_toList]
    simp only [List.forIn_cons, List.forIn_nil, List.toList_toArray]
    refine wpAny_bind (wpAny_bind (wpAny_bind (wpAny_mono hq (fun b s' hb => ?_) F0_mono)))
    obtain ⟨rfl, rfl⟩ := hb
    simp only [Bool.not_false, if_true]
    rw [if_neg (by simp)]
    refine wpAny_pure ?_
    refine wpAny_pure ?_
    refine wpAny_pure ?_
    rw [if_pos (by simp)]
    refine wpAny_bind (wpAny_updateDictKeys (hz := by have e := size_of_entries he; omega) (hf := by simp) ho hd (wpAny_pure (tail _ ⟨_, _, rfl, ?_, Heap.SameBut.update ..⟩)))
    subst hx0
    have hst : storedH ([] : List (List Str × Addr × Value)) k a v = [(k, a, v)] := storedH_new (atKey_none_of_get fun j p h => by simp at h) a v
    rw [hst]
    refine ⟨_, _, ep + 1, Heap.get?_update_self _ ho (Obj.isFreed_of_dict (Obj.data_mapDictKeys hd _)), hc.mapDictKeys _, Obj.data_mapDictKeys hd _, rfl, ?_, by simp⟩
    intro x hx
    have hx' : x = (k, a, v) := by simpa using hx
    subst hx'
    exact (kt prog w).keeps hkey ho hd (Heap.SameBut.update ..)
  · rw [if_neg hem]
    refine wpAny_bind (wpAny_dictEpoch ho2 hd2 ?_)
    refine wpAny_bind (wpAny_dictEntries ho2 hd2 ?_)
    rw [Std.Legacy.Range.forIn_eq_forIn_range']
    have hr : List.range' ([:(#[entryOfKey (kt prog w) (k, a, v)] : Array DictEntry).size] : Std.Legacy.Range).start ([:(#[entryOfKey (kt prog w) (k, a, v)] : Array DictEntry).size] : Std.Legacy.Range).size ([:(#[entryOfKey (kt prog w) (k, a, v)] : Array DictEntry).size] : Std.Legacy.Range).step = [0] := by simp [Std.Legacy.Range.size]
    rw [hr]
    simp only [List.forIn_cons, List.forIn_nil]
    refine wpAny_bind (wpAny_bind (wpAny_bind (wpAny_dictEntries ho2 hd2 ?_)))
    refine wpAny_bind (wpAny_holding ?_)
    refine setHashed_heap (by show A.units + 1 < cLine; omega) hkey hmd (fun h' hm' hs' => ?_) hlen
    refine wpAny_bind (wpAny_dictEpoch (s := { s with heap := h' }) (hs'.extBut _ _ (Ne.symm hne) ho2) hd2 ?_)
    rw [if_neg (by simp)]
    refine wpAny_pure ?_
    refine wpAny_pure ?_
    refine wpAny_pure ?_
    exact tail _ ⟨h', _, rfl, hm', hs'⟩
end
section
variable {prog : Program} {w : World} {A : Around} {s : Shared}
theorem display_one {ke ve : Expr} {env : Env} {pos : Pos} {Q : Value → Shared → Prop} {E : Value → Shared → Prop} (hu : A.units + 1 < cLine)
    (h : wpAny (model prog w) A (eval ke env) (fun kv s₁ => wpAny (model prog w) A (eval ve env) (fun vv s₂ => ∃ ka k, kv = .ref ka ∧ (kt prog w).is s₂.heap k ka ∧ s₂.heap.get? s.heap.objs.size = some (dobj #[] 0) ∧
      (∀ h' tk, h'.DictOfH (kt prog w) s.heap.objs.size [(k, ka, vv)] → Heap.SameBut s.heap.objs.size s₂.heap h' → Q (.ref s.heap.objs.size) { s₂ with heap := h', toks := tk })) E s₁) E { s with heap := s.heap.push (dobj #[] 0) }) :
    wpAny (model prog w) A (eval (.Dict [some ke] [ve] pos) env) Q E s := by
  rw [arm_eval_Dict]
  have hshape : (evalEachOpt [some ke] env).zip ((evalEach [ve] env).map fun v => do let x ← v; standAt pos; pure x) = [(eval ke env, (do let x ← eval ve env; standAt pos; pure x : Sem Value))].map fun p => (some p.1, p.2) := rfl
  rw [hshape, dictDisplay_pairs _ (by simp) (by simp)]
  refine wpAny_bind (wpAny_standAt (wpAny_bind ?_))
  unfold subDict
  refine wpAny_bind (wpAny_alloc ?_)
  refine wpAny_bind (wpAny_holding ?_)
  rw [if_pos (by simp)]
  refine wpAny_bind (evalPairs_cons (wpAny_mono h (fun kv s₁ h₁ => ?_) fun _ _ x => x))
  refine wpAny_bind (wpAny_mono h₁ (fun vv s₂ h₂ => ?_) fun _ _ x => x)
  refine wpAny_bind (wpAny_standAt (wpAny_pure ?_))
  refine evalPairs_nil ?_
  obtain ⟨ka, k, rfl, hkey, hd, hq⟩ := h₂
  refine wpAny_holding ?_
  refine wpAny_bind ?_
  rw [List.forIn_cons]
  have hm : s₂.heap.DictOfH (kt prog w) s.heap.objs.size [] := dictOfH_of hd rfl (fun x hx => nomatch hx) List.nodup_nil
  refine wpAny_bind (wpAny_bind (wpAny_dictSet_heap (knd := kt prog w) (by show A.units < cLine; omega) hkey hm (fun h' hm' hs' => ?_) (Nat.zero_le _)))
  refine wpAny_pure ?_
  dsimp only
  rw [List.forIn_nil]
  refine wpAny_pure (wpAny_pure (wpAny_pure ?_))
  rw [storedH_new (atKey_none_of_get fun j p h => by simp at h)] at hm'
  exact wpAny_pure (hq h' _ hm' hs')
end
section
variable {prog : Program} {w : World} {A : Around} {s₁ : Shared} {ev : Addr → Env}
theorem drawn_name {x : Str} {px : Pos} {l : Addr} {vs : List Value} (hh : A.handled = none) (hseq : SeqOf s₁.heap l vs) (hl : ∀ C, (ev C).kindOf x = some .local) (hk : ∀ C, (ev C).scope.kind = .function) :
    wpAny (model prog w) A (pyIter (.ref l)) (Drawn prog w A (.Name x px) ev (fun _ => False) vs.length (BT [x] (fun i ws => ∃ v, vs[i]? = some v ∧ ws = [v])) s₁.heap s₁) F0 s₁ := by
  have hlt : l < s₁.heap.objs.size := by
    rcases hseq with ⟨o, e, _⟩ | ⟨o, e, _⟩ <;> exact Heap.lt_size e
  have fin : ∀ {ob : Obj} {St : Nat → Heap → Prop}, ob.isFreed = false → Walks prog w A s₁.heap.objs.size [s₁.heap.objs.size, l] [s₁.heap.objs.size] vs.length (fun i v => vs[i]? = some v) St → St 0 (s₁.heap.push ob) →
      Drawn prog w A (.Name x px) ev (fun _ => False) vs.length (BT [x] (fun i ws => ∃ v, vs[i]? = some v ∧ ws = [v])) s₁.heap s₁ (.ref s₁.heap.objs.size) { s₁ with heap := s₁.heap.push ob } := by
    intro ob St hf Wk hst
    have It := (Iter.name (px := px) (S := fun b => b < s₁.heap.objs.size) (g := s₁.heap) Wk hl hk (fun b hb q => absurd (List.mem_singleton.mp q ▸ hb) (Nat.lt_irrefl _))).reBd (Bd' := BT [x] (fun i ws => ∃ v, vs[i]? = some v ∧ ws = [v]))
      (fun i m m' hB => by obtain ⟨v, hv, rfl⟩ := hB; exact ⟨[v], ⟨v, hv, rfl⟩, rfl, rfl⟩)
    refine ⟨_, _, _, _, rfl, It, ⟨hst, fun b o hb e => Heap.get?_push_of_some _ e⟩, ?_, fun _ q => q.elim, ?_, ⟨_, _, rfl⟩, fun b o e => Heap.get?_push_of_some _ e⟩
    · intro b hb
      show b < (s₁.heap.push _).objs.size
      rw [Heap.size_push]
      rcases hb with hb | hb
      · exact Nat.lt_succ_of_lt hb
      · rcases List.mem_cons.mp hb with rfl | hb
        · exact Nat.lt_succ_self _
        · rw [List.mem_singleton.mp hb]; exact Nat.lt_succ_of_lt hlt
    · intro b hb
      rw [List.mem_singleton.mp hb]
      exact fresh_none (Nat.le_refl _)
  rcases hseq with hl' | ht'
  · refine wpAny_pyIter_list hl' ?_
    have Wk := Walks.list (prog := prog) (w := w) hh s₁.heap.objs.size l (Nat.ne_of_lt hlt) vs.toArray
    rw [List.size_toArray] at Wk
    simp only [List.getElem?_toArray] at Wk
    exact fin rfl Wk ⟨⟨_, Heap.get?_push_size _ rfl, rfl, rfl⟩, hl'.at fun o e => Heap.get?_push_of_some _ e⟩
  · refine iter_tuple ht' ?_
    have Wk := Walks.tuple (prog := prog) (w := w) hh s₁.heap.objs.size l (Nat.ne_of_lt hlt) vs.toArray
    rw [List.size_toArray] at Wk
    simp only [List.getElem?_toArray] at Wk
    exact fin rfl Wk ⟨⟨_, Heap.get?_push_size _ rfl, rfl, rfl⟩, Heap.IsTuple.at (show s₁.heap.IsTuple l vs.toArray from ht') fun o e => Heap.get?_push_of_some _ e⟩
end

theorem attrs_xs {prog : Program} {w : World} {h : Heap} {r : Row} : ∀ {vs : List Value} {ps : List Nat}, All2 (fun v i => RdT h v (attrC r i)) vs ps → (∀ i ∈ ps, r i ≠ none) →
    ∃ xs : List (List Str × Addr × Value), xs.length = vs.length ∧ (∀ (j : Nat) (y : List Str × Addr × Value), xs[j]? = some y → ∃ (q : Addr) (n v : Value), vs[j]? = some (.ref q) ∧ y.2.2 = .ref q ∧ IsTup h q [.ref y.2.1, n, v].toArray ∧ (kt prog w).is h y.1 y.2.1) ∧
      All2 (KV h (attrC r)) xs ps
  | _, _, .nil, _ => ⟨[], rfl, fun j y e => by simp at e, .nil⟩
  | _, _, .cons (a := v) (b := i) a rest, hp => by
    obtain ⟨xs, hl, hx, hk⟩ := attrs_xs (prog := prog) (w := w) rest fun j hj => hp j (List.mem_cons_of_mem _ hj)
    have hi := hp i (List.mem_cons_self ..)
    cases hc : r i with
    | none => exact absurd hc hi
    | some c =>
      have a0 := a
      simp only [attrC, hc, attrT] at a
      obtain ⟨q, ws, rfl, _, ht, hw⟩ := a.tup_inv
      obtain ⟨v1, ws, rfl, q1, hw⟩ := hw.cons_inv
      obtain ⟨v2, ws, rfl, q2, hw⟩ := hw.cons_inv
      obtain ⟨v3, ws, rfl, q3, hw⟩ := hw.cons_inv
      obtain rfl := hw.nil_inv
      obtain ⟨ka, rfl, _, hkey⟩ := key_of (prog := prog) (w := w) (xs := keyL i) q1
      refine ⟨(keyL i, ka, .ref q) :: xs, by simp [hl], fun j y e => ?_, .cons ⟨rfl, q1, a0⟩ hk⟩
      cases j with
      | zero =>
        rw [List.getElem?_cons_zero] at e
        obtain rfl := Option.some.inj e
        exact ⟨q, v2, v3, rfl, rfl, ht, hkey⟩
      | succ j => simpa using hx j y (by simpa using e)
theorem All2.erase {α β : Type} {R : α → β → Prop} : ∀ {as : List α} {bs : List β}, All2 R as bs → ∀ (j : Nat), All2 R (as.eraseIdx j) (bs.eraseIdx j)
  | _, _, .nil, _ => .nil
  | _, _, .cons _ r, 0 => r
  | _, _, .cons a r, j + 1 => .cons a (r.erase j)
theorem All2.imp {α β : Type} {R R' : α → β → Prop} : ∀ {as : List α} {bs : List β}, All2 R as bs → (∀ a b, a ∈ as → b ∈ bs → R a b → R' a b) → All2 R' as bs
  | _, _, .nil, _ => .nil
  | _, _, .cons a r, h => .cons (h _ _ (List.mem_cons_self ..) (List.mem_cons_self ..) a) (r.imp fun a b ha hb => h a b (List.mem_cons_of_mem _ ha) (List.mem_cons_of_mem _ hb))
theorem mem_erase {l : List Nat} (hn : l.Nodup) : ∀ {j p : Nat}, l[j]? = some p → ∀ k, k ∈ l.eraseIdx j ↔ k ∈ l ∧ k ≠ p := by
  induction l with
  | nil => intro j p h; simp at h
  | cons a l ih =>
    intro j p h k
    obtain ⟨ha, hn'⟩ := List.nodup_cons.mp hn
    cases j with
    | zero =>
      simp only [List.getElem?_cons_zero, Option.some.injEq] at h
      subst h
      simp only [List.eraseIdx_cons_zero, List.mem_cons]
      constructor
      · intro hk; exact ⟨.inr hk, fun q => ha (q ▸ hk)⟩
      · rintro ⟨q | q, hne⟩
        · exact absurd q hne
        · exact q
    | succ j =>
      have h' : l[j]? = some p := by simpa using h
      have hpm := List.mem_of_getElem? h'
      simp only [List.eraseIdx_cons_succ, List.mem_cons, ih hn' h' k]
      constructor
      · rintro (rfl | ⟨hk, hne⟩)
        · exact ⟨.inl rfl, fun q => ha (q ▸ hpm)⟩
        · exact ⟨.inr hk, hne⟩
      · rintro ⟨rfl | hk, hne⟩
        · exact .inl rfl
        · exact .inr ⟨hk, hne⟩

def RowDict (prog : Program) (w : World) (h : Heap) (d : Addr) (row : Row) : Prop := ∃ ps, DictR prog w h d (attrC row) ps ∧ ps.Nodup ∧ ∀ k, k ∈ ps ↔ (k < 5 ∧ row k ≠ none)
theorem RowDict.tq {prog : Program} {w : World} {h h' : Heap} {d : Addr} {row : Row} (r : RowDict prog w h d row) (k : Tq h h') (hd : ∀ o, h.get? d = some o → h'.get? d = some o) : RowDict prog w h' d row :=
  let ⟨ps, R, hn, hm⟩ := r; ⟨ps, R.tq k hd, hn, hm⟩
theorem kv_row {h : Heap} {row row' : Row} {x : List Str × Addr × Value} {i : Nat} (r : KV h (attrC row) x i) (e : row i = row' i) : KV h (attrC row') x i :=
  ⟨r.1, r.2.1, by have := r.2.2; simp only [attrC] at this ⊢; rw [← e]; exact this⟩

theorem RowDict.pop {prog : Program} {w : World} {h : Heap} {d : Addr} {row row' : Row} {p : Nat} (r : RowDict prog w h d row) (hp5 : p < 5) (hp : row p ≠ none) (hp' : row' p = none) (hsame : ∀ k, k ≠ p → row k = row' k) :
    ∃ xs j q, h.DictOfH (kt prog w) d xs ∧ xs[j]? = some (keyL p, q) ∧ xs.length ≤ 5 ∧ ∀ h' : Heap, Tq h h' → h'.DictOfH (kt prog w) d (xs.eraseIdx j) → RowDict prog w h' d row' := by
  obtain ⟨ps, ⟨xs, hm, hk⟩, hn, hmem⟩ := r
  have h5 : ∀ i ∈ ps, i < 5 := fun i hi => ((hmem i).mp hi).1
  have hpm : p ∈ ps := (hmem p).mpr ⟨hp5, hp⟩
  obtain ⟨j, hj⟩ := List.mem_iff_getElem?.mp hpm
  obtain ⟨x, hx, hkx⟩ := hk.get hj
  refine ⟨xs, j, x.2, hm, by rw [hx, ← hkx.1], by rw [hk.length]; exact nodup_len 5 ps hn h5, fun h' T hm' => ?_⟩
  refine ⟨ps.eraseIdx j, ⟨xs.eraseIdx j, hm', (hk.erase j).imp fun y i _ hi r => kv_row (r.tq T) (hsame i ((mem_erase hn hj i).mp hi).2)⟩, hn.sublist (List.eraseIdx_sublist _ _), fun k => ?_⟩
  rw [mem_erase hn hj, hmem]
  constructor
  · rintro ⟨⟨h1, h2⟩, h3⟩; exact ⟨h1, hsame k h3 ▸ h2⟩
  · rintro ⟨h1, h2⟩
    have h3 : k ≠ p := fun q => h2 (q ▸ hp')
    exact ⟨⟨h1, (hsame k h3).symm ▸ h2⟩, h3⟩

theorem RowDict.put {prog : Program} {w : World} {h : Heap} {d : Addr} {row row' : Row} {p : Nat} (r : RowDict prog w h d row) (hp5 : p < 5) (hp' : row' p ≠ none) (hsame : ∀ k, k ≠ p → row k = row' k) :
    ∃ xs, h.DictOfH (kt prog w) d xs ∧ xs.length ≤ 5 ∧ ∀ (h' : Heap) (ka : Addr) (v : Value), Tq h h' → h'.DictOfH (kt prog w) d (storedH xs (keyL p) ka v) → RdT h' (.ref ka) (keyT p) → RdT h' v (attrC row' p) → RowDict prog w h' d row' := by
  obtain ⟨ps, ⟨xs, hm, hk⟩, hn, hmem⟩ := r
  have h5 : ∀ i ∈ ps, i < 5 := fun i hi => ((hmem i).mp hi).1
  refine ⟨xs, hm, by rw [hk.length]; exact nodup_len 5 ps hn h5, fun h' ka v T hm' hka hv => ?_⟩
  obtain ⟨_, _, _, _, _, _, _, _, hnx⟩ := id hm
  obtain ⟨h1, h2⟩ := kv_at hk hp5 h5
  by_cases hpm : p ∈ ps
  · obtain ⟨j, q, e, _⟩ := h1 hpm
    rw [storedH_old (atKey_of_get hnx e)] at hm'
    refine ⟨ps, ⟨_, hm', ?_⟩, hn, fun k => ?_⟩
    · have go : ∀ {xs : List (List Str × Addr × Value)} {ps : List Nat}, All2 (KV h (attrC row)) xs ps → (∀ i ∈ ps, i < 5) → All2 (KV h' (attrC row')) (xs.map (putAt (keyL p) v)) ps := by
        intro xs ps hk
        induction hk with
        | nil => intro _; exact .nil
        | @cons y i ys is a r ih =>
          intro hb
          refine .cons ?_ (ih fun i hi => hb i (List.mem_cons_of_mem _ hi))
          by_cases hi : i = p
          · subst hi
            have : putAt (keyL i) v y = (y.1, y.2.1, v) := by unfold putAt; rw [if_pos a.1]
            rw [this]
            exact ⟨a.1, a.2.1.tq T, hv⟩
          · have hne : y.1 ≠ keyL p := fun q => hi (keyL_inj i (hb i (List.mem_cons_self ..)) p hp5 (a.1 ▸ q))
            have : putAt (keyL p) v y = y := by unfold putAt; rw [if_neg hne]
            rw [this]
            exact kv_row (a.tq T) (hsame i hi)
      exact go hk h5
    · rw [hmem]
      by_cases hkp : k = p
      · subst hkp; exact ⟨fun q => ⟨q.1, hp'⟩, fun q => ⟨q.1, ((hmem k).mp hpm).2⟩⟩
      · rw [hsame k hkp]
  · have hno : atKey xs (keyL p) = none := atKey_none_of_get fun j q => h2 hpm j q
    rw [storedH_new hno] at hm'
    refine ⟨ps ++ [p], ⟨_, hm', All2.snoc ⟨rfl, hka, hv⟩ (hk.imp fun y i _ hi r => kv_row (r.tq T) (hsame i fun q => hpm (q ▸ hi)))⟩, ?_, fun k => ?_⟩
    · rw [List.nodup_append]
      refine ⟨hn, by simp, fun x hx y hy => ?_⟩
      rw [List.mem_singleton.mp hy]
      exact fun q => hpm (q ▸ hx)
    · rw [List.mem_append, List.mem_singleton, hmem]
      by_cases hkp : k = p
      · subst hkp; exact ⟨fun _ => ⟨hp5, hp'⟩, fun _ => .inr rfl⟩
      · rw [hsame k hkp]
        exact ⟨fun q => q.resolve_right hkp, fun q => .inl q⟩
theorem diffs_eq (r1 r2 : Row) : diffs r1 r2 = (List.range 5).filter fun i => !eqB (r1 i) (r2 i) := by
  unfold diffs
  induction List.range 5 with
  | nil => rfl
  | cons a l ih =>
    rw [List.filterMap_cons, List.filter_cons]
    cases h : eqB (r1 a) (r2 a) with
    | true => simpa using ih
    | false => simp only [Bool.false_eq_true, if_false, Bool.not_false, if_true]; rw [ih]
theorem diffs_nodup (r1 r2 : Row) : (diffs r1 r2).Nodup := by rw [diffs_eq]; exact List.nodup_range.sublist List.filter_sublist
theorem diffs_mem {r1 r2 : Row} {i : Nat} : i ∈ diffs r1 r2 ↔ i < 5 ∧ r1 i ≠ r2 i := by
  rw [diffs_eq, List.mem_filter, List.mem_range]
  constructor
  · rintro ⟨h1, h2⟩; exact ⟨h1, eqB_false.mp (by simpa using h2)⟩
  · rintro ⟨h1, h2⟩; exact ⟨h1, by rw [eqB_false.mpr h2]; rfl⟩
noncomputable def rowi (r1 r2 : Row) (i : Nat) : Row := fun k => if k ∈ (diffs r1 r2).take i then r2 k else r1 k
theorem rowi_end {r1 r2 : Row} {n : Nat} (hn : (diffs r1 r2).length ≤ n) : ∀ k, k < 5 → rowi r1 r2 n k = r2 k := fun k hk => by
  unfold rowi
  rw [List.take_of_length_le hn]
  by_cases h : k ∈ diffs r1 r2
  · rw [if_pos h]
  · rw [if_neg h]
    exact Classical.byContradiction fun q => h (diffs_mem.mpr ⟨hk, q⟩)
theorem rowi_step {r1 r2 : Row} {i p : Nat} (hp : (diffs r1 r2)[i]? = some p) : rowi r1 r2 i p = r1 p ∧ rowi r1 r2 (i + 1) p = r2 p ∧ ∀ k, k ≠ p → rowi r1 r2 i k = rowi r1 r2 (i + 1) k := by
  have ht : (diffs r1 r2).take (i + 1) = (diffs r1 r2).take i ++ [p] := by rw [List.take_add_one, hp]; rfl
  have hnot : p ∉ (diffs r1 r2).take i := by
    intro hm
    have hn := diffs_nodup r1 r2
    have hsub : ((diffs r1 r2).take (i + 1)).Nodup := hn.sublist (List.take_sublist _ _)
    rw [ht, List.nodup_append] at hsub
    exact hsub.2.2 p hm p (List.mem_singleton.mpr rfl) rfl
  unfold rowi
  refine ⟨if_neg hnot, by rw [ht, if_pos (List.mem_append.mpr (.inr (List.mem_singleton.mpr rfl)))], fun k hk => ?_⟩
  rw [ht]
  by_cases h : k ∈ (diffs r1 r2).take i
  · rw [if_pos h, if_pos (List.mem_append.mpr (.inl h))]
  · rw [if_neg h, if_neg (by rw [List.mem_append, List.mem_singleton]; rintro (q | q); exact h q; exact hk q)]
structure DoJ (w : World) (hb : Heap) (c d : Addr) (oc : Obj) (r1 r2 : Row) (i : Nat) (m : Str → Option Value) (h : Heap) : Prop where
  base : Kp hb h
  cell : h.get? c = some oc
  rd : RowDict PG w h d (rowi r1 r2 i)
theorem dictOfH_T {prog : Program} {w : World} {h h' : Heap} {d : Addr} {xs : List (List Str × Addr × Value)} (hm : h.DictOfH (kt prog w) d xs) (T : Tq h h') (hd : ∀ o, h.get? d = some o → h'.get? d = some o) : h'.DictOfH (kt prog w) d xs := by
  obtain ⟨o, es, ep, ho, hx, hd', hes, his, hn⟩ := hm
  exact ⟨o, es, ep, hd _ ho, hx, hd', hes, fun x hx => (let ⟨o, it, n, ho, hc, hdt, q⟩ := his x hx; ⟨o, it, n, T _ _ _ _ ho hc hdt, hc, hdt, q⟩), hn⟩
theorem asg_plain {M : Model} {A : Around} {E : Value → Shared → Prop} {s : Shared} {x : Str} {px : Pos} {value : Expr} {pos : Pos} {env : Env} {Q : Flow → Shared → Prop} (hs : swapsWith value (some (.Name x px)) pos.line env = pure false)
    (h : wpAny M A (eval value env) (fun v s₁ => wpAny M A (storeName env x v) (fun _ s₂ => Q .next s₂) E s₁) E s) : wpAny M A (exec (.Assign [.Name x px] value pos) env) Q E s := by
  have e : exec (.Assign [.Name x px] value pos) env = (do
      standAt pos
      if ← swapsWith value (some (.Name x px)) pos.line env then
        evalThenUse value env (assign (.Name x px) env)
        return .next
      let v ← eval value env
      standAt px
      bindName env x v
      pure .next) := rfl
  rw [e, hs]
  refine wpAny_bind (wpAny_standAt ?_)
  refine wpAny_bind (wpAny_pure ?_)
  simp only [Bool.false_eq_true, if_false]
  refine wpAny_bind (wpAny_mono h (fun v s₁ h₁ => ?_) fun _ _ x => x)
  refine wpAny_bind (wpAny_standAt (wpAny_bind (wpAny_bindName (wpAny_mono h₁ (fun _ s₂ h₂ => wpAny_pure h₂) fun _ _ x => x))))
section
variable {w : World} {mg mb : Str → Option Value} {A : Around} {s : Shared} {Q : Value → Shared → Prop}
set_option maxHeartbeats 4000000 in
theorem done_call (hh : A.handled = none) (hdp : A.depth + 10 < recursionLimit) (hu : A.units + 220 < cLine) (G : G0 w mg mb s.heap) {va : Value} {l : Addr} {ds : List Value} {kd wo : Str} {r1 r2 : Row} (ra : RdT s.heap va (formD kd wo r1))
    (hl : s.heap.PlainList l ds.toArray) (hds : RdsT s.heap ds (dueD r1 r2)) (ok1 : RowOk r1) (ok2 : RowOk r2)
    (hQ : ∀ h' tk a, Kp s.heap h' → RdT h' (.ref a) (.tuple (attrs r2)) → Q (.ref a) { s with heap := h', toks := tk }) :
    wpAny (model PySem.Challenge.rw_xm0645_01.row.prog w) A (call (.ref 76) [va, .ref l]) Q F0 s := by
  obtain ⟨a, x0, x1, x2, t, x4, vs, rfl, hta, htr, hra, _⟩ := form_inv ra
  (refine wpAny_call ?_; refine call_cell1 "found" (by omega) ((G).K 76 _ rfl) rfl (G).T.nolimit (codeRec_of (G).K rfl) rfl (locs rfl) (fun n => rfl) rfl ?_; intro h₁ tk₁ oc F N hoc; have X := (G).K; have T := (G).T)
  ((repeat' (first | (k_unfold; (try dsimp only)) | (k_end; fail) | ((fail_if_success (with_reducible first | intro _ | refine st_and ?_ | refine st_ex ?_ | refine st_ex1 ?_ | refine st_eq ?_ | refine st_cr ?_ | refine st_td ?_ | refine st_tl ?_ | refine st_tt ?_ | refine st_tz ?_ | refine st_bs ?_ | refine st_ba ?_ | refine st_bp ?_ | refine st_bu ?_ | refine st_bg ?_ | refine st_sn ?_ | refine st_fo ?_ | refine st_al ?_ | refine st_ad ?_ | refine st_el ?_ | refine st_ed ?_ | refine st_cNq ?_ | refine st_cIn ?_ | refine st_cNn ?_)); first | walk1 | (dsimp only; (fail_if_success (with_reducible first | intro _ | refine st_and ?_ | refine st_ex ?_ | refine st_ex1 ?_ | refine st_eq ?_ | refine st_cr ?_ | refine st_td ?_ | refine st_tl ?_ | refine st_tt ?_ | refine st_tz ?_ | refine st_bs ?_ | refine st_ba ?_ | refine st_bp ?_ | refine st_bu ?_ | refine st_bg ?_ | refine st_sn ?_ | refine st_fo ?_ | refine st_al ?_ | refine st_ad ?_ | refine st_el ?_ | refine st_ed ?_ | refine st_cNq ?_ | refine st_cIn ?_ | refine st_cNn ?_)); walk1) | (leave1; walk_say "STEP leave1"; try dsimp only)) | fail "no step")); (try k_sweep); ((try (with_reducible rename Fr _ _ _ _ => F)); (try (with_reducible rename News _ _ _ _ => N))))
  refine asg_plain rfl ?_
  ((try (with_reducible show wpAny _ _ _ _ _ _)); (try dsimp only))
  k_fold
  refine anyE (dc_val (by rw [units_deeper]; omega) (hclos := closureFor_none (by decide)) ?_ (by decide) rfl (by decide))
  ((repeat' (first | (k_unfold; (try dsimp only)) | (k_end; fail) | ((fail_if_success (with_reducible first | intro _ | refine st_and ?_ | refine st_ex ?_ | refine st_ex1 ?_ | refine st_eq ?_ | refine st_cr ?_ | refine st_td ?_ | refine st_tl ?_ | refine st_tt ?_ | refine st_tz ?_ | refine st_bs ?_ | refine st_ba ?_ | refine st_bp ?_ | refine st_bu ?_ | refine st_bg ?_ | refine st_sn ?_ | refine st_fo ?_ | refine st_al ?_ | refine st_ad ?_ | refine st_el ?_ | refine st_ed ?_ | refine st_cNq ?_ | refine st_cIn ?_ | refine st_cNn ?_)); first | walk1 | (dsimp only; (fail_if_success (with_reducible first | intro _ | refine st_and ?_ | refine st_ex ?_ | refine st_ex1 ?_ | refine st_eq ?_ | refine st_cr ?_ | refine st_td ?_ | refine st_tl ?_ | refine st_tt ?_ | refine st_tz ?_ | refine st_bs ?_ | refine st_ba ?_ | refine st_bp ?_ | refine st_bu ?_ | refine st_bg ?_ | refine st_sn ?_ | refine st_fo ?_ | refine st_al ?_ | refine st_ad ?_ | refine st_el ?_ | refine st_ed ?_ | refine st_cNq ?_ | refine st_cIn ?_ | refine st_cNn ?_)); walk1) | (leave1; walk_say "STEP leave1"; try dsimp only)) | fail "no step")); (try k_sweep); ((try (with_reducible rename Fr _ _ _ _ => F)); (try (with_reducible rename News _ _ _ _ => N))))
  rw [attrs_eq] at hra
  obtain ⟨xs0, hxl, hxa, hxk⟩ := attrs_xs (prog := PG) (w := w) ((RdAll.to_all2 hra).mono fun _ _ q => Rd.keep q F.keep) (fun i hi => (mem_present (present_lt i hi)).mp hi)
  have hpn := nodup_len 5 _ (present_nodup r1) present_lt
  have hvn : vs.length = (present r1).length := (RdAll.to_all2 hra).length
  have hc1 : h₁.get? (s.heap.objs.size + 1) = some oc := N.get (List.Mem.head _)
  refine ⟨vs.length, BT ["one"] (fun i ws => ∃ v, vs[i]? = some v ∧ ws = [v]), xs0, h₁, drawn_name hh (.inr (htr.keeps F.keep)) ?_ ?_, by rw [sizeLine_eq]; omega, hxl, ?_, ?_, ?_, ?_, ?_⟩
  · intro C; rfl
  · intro C; rfl
  · rw [keys_fst hxk]; exact keyL_nodup _ (present_nodup r1) present_lt
  · intro y hy
    obtain ⟨j, hj⟩ := List.mem_iff_getElem?.mp hy
    obtain ⟨_, _, _, _, _, _, hk⟩ := hxa j y hj
    exact hk
  · rintro i y s' m₀ mm C hy ⟨ws, ⟨v, hv, rfl⟩, _, rfl⟩ hns hkp
    obtain ⟨q, n, v', hvq, hyq, htq, _⟩ := hxa i y hy
    rw [hv] at hvq; cases hvq
    have htq' : IsTup s'.heap q [.ref y.2.1, n, v'].toArray := htq.keeps hkp
    have nsM : NsM := ⟨⟩
    (try dsimp only)
    ((repeat' (first | (k_unfold; (try dsimp only)) | (k_end; fail) | ((fail_if_success (with_reducible first | intro _ | refine st_and ?_ | refine st_ex ?_ | refine st_ex1 ?_ | refine st_eq ?_ | refine st_cr ?_ | refine st_td ?_ | refine st_tl ?_ | refine st_tt ?_ | refine st_tz ?_ | refine st_bs ?_ | refine st_ba ?_ | refine st_bp ?_ | refine st_bu ?_ | refine st_bg ?_ | refine st_sn ?_ | refine st_fo ?_ | refine st_al ?_ | refine st_ad ?_ | refine st_el ?_ | refine st_ed ?_ | refine st_cNq ?_ | refine st_cIn ?_ | refine st_cNn ?_)); first | walk1 | (dsimp only; (fail_if_success (with_reducible first | intro _ | refine st_and ?_ | refine st_ex ?_ | refine st_ex1 ?_ | refine st_eq ?_ | refine st_cr ?_ | refine st_td ?_ | refine st_tl ?_ | refine st_tt ?_ | refine st_tz ?_ | refine st_bs ?_ | refine st_ba ?_ | refine st_bp ?_ | refine st_bu ?_ | refine st_bg ?_ | refine st_sn ?_ | refine st_fo ?_ | refine st_al ?_ | refine st_ad ?_ | refine st_el ?_ | refine st_ed ?_ | refine st_cNq ?_ | refine st_cIn ?_ | refine st_cNn ?_)); walk1) | (leave1; walk_say "STEP leave1"; try dsimp only)) | fail "no step")); (try k_sweep); ((try (with_reducible rename Fr _ _ _ _ => F)); (try (with_reducible rename News _ _ _ _ => N))))
    exact ⟨⟨_, _, rfl, fun _ _ e => e⟩, rfl⟩
  · rintro i y s' m₀ mm C hy ⟨ws, ⟨v, hv, rfl⟩, _, rfl⟩ hns hkp
    obtain ⟨q, n, v', hvq, hyq, htq, _⟩ := hxa i y hy
    rw [hv] at hvq; cases hvq
    have nsM : NsM := ⟨⟩
    (try dsimp only)
    ((repeat' (first | (k_unfold; (try dsimp only)) | (k_end; fail) | ((fail_if_success (with_reducible first | intro _ | refine st_and ?_ | refine st_ex ?_ | refine st_ex1 ?_ | refine st_eq ?_ | refine st_cr ?_ | refine st_td ?_ | refine st_tl ?_ | refine st_tt ?_ | refine st_tz ?_ | refine st_bs ?_ | refine st_ba ?_ | refine st_bp ?_ | refine st_bu ?_ | refine st_bg ?_ | refine st_sn ?_ | refine st_fo ?_ | refine st_al ?_ | refine st_ad ?_ | refine st_el ?_ | refine st_ed ?_ | refine st_cNq ?_ | refine st_cIn ?_ | refine st_cNn ?_)); first | walk1 | (dsimp only; (fail_if_success (with_reducible first | intro _ | refine st_and ?_ | refine st_ex ?_ | refine st_ex1 ?_ | refine st_eq ?_ | refine st_cr ?_ | refine st_td ?_ | refine st_tl ?_ | refine st_tt ?_ | refine st_tz ?_ | refine st_bs ?_ | refine st_ba ?_ | refine st_bp ?_ | refine st_bu ?_ | refine st_bg ?_ | refine st_sn ?_ | refine st_fo ?_ | refine st_al ?_ | refine st_ad ?_ | refine st_el ?_ | refine st_ed ?_ | refine st_cNq ?_ | refine st_cIn ?_ | refine st_cNn ?_)); walk1) | (leave1; walk_say "STEP leave1"; try dsimp only)) | fail "no step")); (try k_sweep); ((try (with_reducible rename Fr _ _ _ _ => F)); (try (with_reducible rename News _ _ _ _ => N))))
    exact ⟨⟨_, _, rfl, fun _ _ e => e⟩, hyq.symm⟩
  intro h2 tk2 D hDl hm2 kp2
  have F1k := F.keep
  have hlt2 : s.heap.objs.size + 1 < D := hDl _ _ hc1
  have hcn : s.heap.get? (s.heap.objs.size + 1) = none := fresh_none (Nat.le_succ _)
  have hsys : sysModules < D := by
    obtain ⟨_, hnl, _⟩ := G.T.nolimit
    obtain ⟨_, _, _, e, _⟩ := hnl
    exact Nat.lt_trans (by decide) (hDl _ _ (F.keep _ _ e))
  have lo1 : (D == sysModules) = false := beq_eq_false_iff_ne.mpr (Nat.ne_of_gt hsys)
  have hc2 := kp2 _ _ hc1
  have F := F.keeps kp2
  clear N
  have N := news0 F
  ((try (with_reducible show wpAny _ _ _ _ _ _)); (try dsimp only))
  ((repeat' (first | (k_unfold; (try dsimp only)) | (k_end; fail) | ((fail_if_success (with_reducible first | intro _ | refine st_and ?_ | refine st_ex ?_ | refine st_ex1 ?_ | refine st_eq ?_ | refine st_cr ?_ | refine st_td ?_ | refine st_tl ?_ | refine st_tt ?_ | refine st_tz ?_ | refine st_bs ?_ | refine st_ba ?_ | refine st_bp ?_ | refine st_bu ?_ | refine st_bg ?_ | refine st_sn ?_ | refine st_fo ?_ | refine st_al ?_ | refine st_ad ?_ | refine st_el ?_ | refine st_ed ?_ | refine st_cNq ?_ | refine st_cIn ?_ | refine st_cNn ?_)); first | walk1 | (dsimp only; (fail_if_success (with_reducible first | intro _ | refine st_and ?_ | refine st_ex ?_ | refine st_ex1 ?_ | refine st_eq ?_ | refine st_cr ?_ | refine st_td ?_ | refine st_tl ?_ | refine st_tt ?_ | refine st_tz ?_ | refine st_bs ?_ | refine st_ba ?_ | refine st_bp ?_ | refine st_bu ?_ | refine st_bg ?_ | refine st_sn ?_ | refine st_fo ?_ | refine st_al ?_ | refine st_ad ?_ | refine st_el ?_ | refine st_ed ?_ | refine st_cNq ?_ | refine st_cIn ?_ | refine st_cNn ?_)); walk1) | (leave1; walk_say "STEP leave1"; try dsimp only)) | fail "no step")); (try k_sweep); ((try (with_reducible rename Fr _ _ _ _ => F)); (try (with_reducible rename News _ _ _ _ => N))))
  refine wpAny_storeName_cell rfl rfl rfl ⟨oc, hc2, hoc⟩ fun h3 hv3 hs3 => ?_
  obtain ⟨oc3, hc3, hoc3⟩ := hv3
  have hk3 : ∀ b o, b ≠ s.heap.objs.size + 1 → h2.get? b = some o → h3.get? b = some o := fun b o hb e => hs3.extBut b o hb e
  have T3 : Tq h2 h3 := Tq.of_but (X := (· = s.heap.objs.size + 1)) (fun b o hb e => hk3 b o hb e) (fun b o vs n hb e _ hd => by subst hb; rw [hc2] at e; cases e; rw [hoc] at hd; cases hd)
  have RD0 : RowDict PG w h3 D (rowi r1 r2 0) := by
    have R : DictR PG w h2 D (attrC r1) (present r1) := ⟨xs0, hm2, hxk.mono fun _ _ q => q.keep kp2⟩
    have e0 : rowi r1 r2 0 = r1 := by funext k; simp [rowi]
    rw [e0]
    exact ⟨_, R.tq T3 fun o e => hk3 _ o (Nat.ne_of_gt hlt2) e, present_nodup r1, fun k => ⟨fun q => ⟨present_lt k q, (mem_present (present_lt k q)).mp q⟩, fun q => (mem_present q.1).mpr q.2⟩⟩
  have F := but_Fr' F (Nat.succ_ne_self _) hcn hk3
  clear N T3
  have N := news0 F
  ((repeat' (first | (k_unfold; (try dsimp only)) | (k_end; fail) | ((fail_if_success (with_reducible first | intro _ | refine st_and ?_ | refine st_ex ?_ | refine st_ex1 ?_ | refine st_eq ?_ | refine st_cr ?_ | refine st_td ?_ | refine st_tl ?_ | refine st_tt ?_ | refine st_tz ?_ | refine st_bs ?_ | refine st_ba ?_ | refine st_bp ?_ | refine st_bu ?_ | refine st_bg ?_ | refine st_sn ?_ | refine st_fo ?_ | refine st_al ?_ | refine st_ad ?_ | refine st_el ?_ | refine st_ed ?_ | refine st_cNq ?_ | refine st_cIn ?_ | refine st_cNn ?_)); first | walk1 | (dsimp only; (fail_if_success (with_reducible first | intro _ | refine st_and ?_ | refine st_ex ?_ | refine st_ex1 ?_ | refine st_eq ?_ | refine st_cr ?_ | refine st_td ?_ | refine st_tl ?_ | refine st_tt ?_ | refine st_tz ?_ | refine st_bs ?_ | refine st_ba ?_ | refine st_bp ?_ | refine st_bu ?_ | refine st_bg ?_ | refine st_sn ?_ | refine st_fo ?_ | refine st_al ?_ | refine st_ad ?_ | refine st_el ?_ | refine st_ed ?_ | refine st_cNq ?_ | refine st_cIn ?_ | refine st_cNn ?_)); walk1) | (leave1; walk_say "STEP leave1"; try dsimp only)) | fail "no step")); (try k_sweep); ((try (with_reducible rename Fr _ _ _ _ => F)); (try (with_reducible rename News _ _ _ _ => N))))
  ((try (with_reducible show wpAny _ _ _ _ _ _)); (try dsimp only))
  k_fold
  refine anyE (wpAny_For ?_)
  refine nameX_L F rfl ?_
  ((try (with_reducible show wpAny _ _ _ _ _ _)); (try dsimp only))
  have hall : All2 (fun v i => RdT s.heap v (dueT i (r2 i))) ds (diffs r1 r2) := RdAll.to_all2 hds
  have hdl : ds.length = (diffs r1 r2).length := hall.length
  have hbn : s.heap.get? s.heap.objs.size = none := fresh_none (Nat.le_refl _)
  have kb1 : ∀ b o, s.heap.get? b = some o → b < D := fun b o e => hDl b o (by
    have h1 := F1k b o e
    exact h1)
  have hDn : s.heap.get? D = none := by
    cases e : s.heap.get? D with
    | none => rfl
    | some o => exact absurd (kb1 _ _ e) (Nat.lt_irrefl _)
  have hDL : D ≠ s.heap.objs.size := Nat.ne_of_gt (Nat.lt_of_succ_lt hlt2)
  refine anyE (list_for_tup2 (U := fun b => b = s.heap.objs.size ∨ b = D) (xs := ["key", "name", "worth"]) (vs := ds) (B := fun i ws => ∃ p x1 x2 x3, (diffs r1 r2)[i]? = some p ∧ ws = [x1, x2, x3] ∧ RdT s.heap x1 (keyT p) ∧
      (r2 p = none → x2 = .none) ∧ (∀ c, r2 p = some c → RdT s.heap x2 (.str c.1) ∧ RdT s.heap x3 (.str c.2))) hh (hl.at fun o e => F.keep _ _ e).isList ?_ ?_ ?_ ?_)
  · intro i v hv
    obtain ⟨p, hp, hr⟩ := hall.get2 hv
    have key : ∃ t x1 x2 x3, v = .ref t ∧ IsTup s.heap t [x1, x2, x3].toArray ∧ RdT s.heap x1 (keyT p) ∧ (r2 p = none → x2 = .none) ∧ (∀ c, r2 p = some c → RdT s.heap x2 (.str c.1) ∧ RdT s.heap x3 (.str c.2)) := by
      cases hc : r2 p with
      | none =>
        rw [hc] at hr
        obtain ⟨t, ws, rfl, _, ht, hw⟩ := hr.tup_inv
        obtain ⟨v1, ws, rfl, q1, hw⟩ := hw.cons_inv
        obtain ⟨v2, ws, rfl, q2, hw⟩ := hw.cons_inv
        obtain ⟨v3, ws, rfl, q3, hw⟩ := hw.cons_inv
        obtain rfl := hw.nil_inv
        exact ⟨t, v1, v2, v3, rfl, ht, q1, fun _ => q2.none_inv, fun c e => nomatch e⟩
      | some c =>
        rw [hc] at hr
        obtain ⟨t, ws, rfl, _, ht, hw⟩ := hr.tup_inv
        obtain ⟨v1, ws, rfl, q1, hw⟩ := hw.cons_inv
        obtain ⟨v2, ws, rfl, q2, hw⟩ := hw.cons_inv
        obtain ⟨v3, ws, rfl, q3, hw⟩ := hw.cons_inv
        obtain rfl := hw.nil_inv
        exact ⟨t, v1, v2, v3, rfl, ht, q1, (fun e => nomatch e), fun c' e => by cases e; exact ⟨q2, q3⟩⟩
    obtain ⟨t, x1, x2, x3, rfl, ht, k1, k2, k3⟩ := key
    refine ⟨t, [x1, x2, x3], rfl, ?_, ht.keeps F.keep, rfl, p, x1, x2, x3, hp, rfl, k1, k2, k3⟩
    obtain ⟨o, ho, _⟩ := ht
    rintro (q | q)
    · rw [q, hbn] at ho; cases ho
    · rw [q, hDn] at ho; cases ho
  · rintro b (rfl | rfl)
    · exact F.ns.lt
    · obtain ⟨_, ⟨_, ⟨o, _, _, e, _⟩, _⟩, _⟩ := RD0; exact Heap.lt_size e
  · obtain ⟨n, e⟩ := hl
    rintro (q | q)
    · rw [q, hbn] at e; cases e
    · rw [q, hDn] at e; cases e
  intro I RDs St h12 It hSt hst0 hnRD hI kp12
  have nI : ∀ b o, h3.get? b = some o → ¬ b ∈ [I] := fun b o e q => by rw [List.mem_singleton.mp q, hI] at e; cases e
  refine for_block2 (DoJ w s.heap (s.heap.objs.size + 1) D oc3 r1 r2) (It (.cons (.cons (.cons .nil))) ?_ (fun C => rfl)) (hnRD _ (.inl rfl)) hst0 (F.ns.at' fun o e => kp12 _ o e) ?_ ?_ ?_ ?_
  · intro C x hx; simp at hx; rcases hx with rfl | rfl | rfl <;> rfl
  · exact ⟨fun b o e => kp12 b o (F.keep b o e), kp12 _ _ hc3, RD0.tq (Tq.of_kp kp12) fun o e => kp12 _ o e⟩
  · intro i m m₁ h h' st hn hk J
    have T := Tq.of_but (X := fun b => b ∈ [I] ∨ b = s.heap.objs.size) (h := h) (h' := h') (fun b o q e => hk b o (fun z => q (.inl z)) (fun z => q (.inr z)) e) (by
      rintro b o vs n (q | q) e hc hd
      · rw [List.mem_singleton.mp q] at e
        obtain ⟨o', e', hc', _⟩ := hSt i h st
        rw [e] at e'; cases e'; rw [hc] at hc'; simp at hc'
      · subst q; exact ns_data hn e hd)
    refine ⟨fun b o e => hk b o (nI b o (F.keep b o e)) (fun q => by rw [show b = s.heap.objs.size from q, hbn] at e; cases e) (J.base b o e), hk _ _ (nI _ _ hc3) (Nat.succ_ne_self _) J.cell, J.rd.tq T fun o e => hk _ o (fun q => ?_) hDL e⟩
    obtain ⟨_, ⟨_, ⟨o, _, _, e', _⟩, _⟩, _⟩ := RD0
    exact nI _ _ e' q
  · rintro i s' m₀ m hi J ⟨ws, ⟨p, x1, x2, x3, hp, rfl, k1, k2, k3⟩, _, rfl⟩ hns hst ⟨hh', tk', rfl⟩
    obtain ⟨hp5, hne⟩ := diffs_mem.mp (List.mem_of_getElem? hp)
    obtain ⟨st1, st2, st3⟩ := rowi_step hp
    have F : Fr s.heap s.heap.objs.size hh' _ := ⟨hns, J.base, F.above⟩
    obtain ⟨ka, e, _, hkey⟩ := key_of (prog := PG) (w := w) (xs := keyL p) (k1.keep J.base)
    subst e
    clear N
    obtain ⟨nl, N0, back⟩ := all_news F
    have N := news_cons N0 J.cell (Nat.succ_ne_self _) hcn
    cases hc : r2 p with
    | none =>
      obtain rfl := k2 hc
      obtain ⟨xs, j, q, hm, hj, hlen, bk⟩ := J.rd.pop (row' := rowi r1 r2 (i + 1)) hp5 (by rw [st1]; intro z; exact hne (z.trans hc.symm)) (by rw [st2, hc]) st3
      obtain ⟨es, ep, ho, _⟩ := dictOfH_raw hm
      ((repeat' (first | (k_unfold; (try dsimp only)) | (k_end; fail) | ((fail_if_success (with_reducible first | intro _ | refine st_and ?_ | refine st_ex ?_ | refine st_ex1 ?_ | refine st_eq ?_ | refine st_cr ?_ | refine st_td ?_ | refine st_tl ?_ | refine st_tt ?_ | refine st_tz ?_ | refine st_bs ?_ | refine st_ba ?_ | refine st_bp ?_ | refine st_bu ?_ | refine st_bg ?_ | refine st_sn ?_ | refine st_fo ?_ | refine st_al ?_ | refine st_ad ?_ | refine st_el ?_ | refine st_ed ?_ | refine st_cNq ?_ | refine st_cIn ?_ | refine st_cNn ?_)); first | walk1 | (dsimp only; (fail_if_success (with_reducible first | intro _ | refine st_and ?_ | refine st_ex ?_ | refine st_ex1 ?_ | refine st_eq ?_ | refine st_cr ?_ | refine st_td ?_ | refine st_tl ?_ | refine st_tt ?_ | refine st_tz ?_ | refine st_bs ?_ | refine st_ba ?_ | refine st_bp ?_ | refine st_bu ?_ | refine st_bg ?_ | refine st_sn ?_ | refine st_fo ?_ | refine st_al ?_ | refine st_ad ?_ | refine st_el ?_ | refine st_ed ?_ | refine st_cNq ?_ | refine st_cIn ?_ | refine st_cNn ?_)); walk1) | (leave1; walk_say "STEP leave1"; try dsimp only)) | fail "no step")); (try k_sweep); ((try (with_reducible rename Fr _ _ _ _ => F)); (try (with_reducible rename News _ _ _ _ => N))))
      refine pop_heap (by rw [units_deeper]; omega) hkey hm hj (by rw [sizeLine_eq]; omega) (fun h4 tk4 hm4 hs4 => ?_)
      have F4 := but_Fr' F hDL hDn (fun b o hb e => hs4.extBut b o hb e)
      have T4 : Tq hh' h4 := Tq.of_but (X := (· = D)) (fun b o q e => hs4.extBut b o q e) (fun b o vs n q e hc hd => by subst q; rw [ho] at e; cases e; cases hd)
      have J4 : DoJ w s.heap (s.heap.objs.size + 1) D oc3 r1 r2 (i + 1) m₀ h4 := ⟨F4.keep, hs4.extBut _ _ (Nat.ne_of_lt hlt2) J.cell, bk h4 T4 hm4⟩
      have K4 : ∀ b o, RDs b → hh'.get? b = some o → h4.get? b = some o := fun b o hr e => hs4.extBut b o (fun q => hnRD b (.inr q) hr) e
      clear N F back
      have F := F4
      have N := news0 F
      ((try (with_reducible show wpAny _ _ _ _ _ _)); (try dsimp only))
      ((repeat' (first | (k_unfold; (try dsimp only)) | (k_end; fail) | ((fail_if_success (with_reducible first | intro _ | refine st_and ?_ | refine st_ex ?_ | refine st_ex1 ?_ | refine st_eq ?_ | refine st_cr ?_ | refine st_td ?_ | refine st_tl ?_ | refine st_tt ?_ | refine st_tz ?_ | refine st_bs ?_ | refine st_ba ?_ | refine st_bp ?_ | refine st_bu ?_ | refine st_bg ?_ | refine st_sn ?_ | refine st_fo ?_ | refine st_al ?_ | refine st_ad ?_ | refine st_el ?_ | refine st_ed ?_ | refine st_cNq ?_ | refine st_cIn ?_ | refine st_cNn ?_)); first | walk1 | (dsimp only; (fail_if_success (with_reducible first | intro _ | refine st_and ?_ | refine st_ex ?_ | refine st_ex1 ?_ | refine st_eq ?_ | refine st_cr ?_ | refine st_td ?_ | refine st_tl ?_ | refine st_tt ?_ | refine st_tz ?_ | refine st_bs ?_ | refine st_ba ?_ | refine st_bp ?_ | refine st_bu ?_ | refine st_bg ?_ | refine st_sn ?_ | refine st_fo ?_ | refine st_al ?_ | refine st_ad ?_ | refine st_el ?_ | refine st_ed ?_ | refine st_cNq ?_ | refine st_cIn ?_ | refine st_cNn ?_)); walk1) | (leave1; walk_say "STEP leave1"; try dsimp only)) | fail "no step")); (try k_sweep); ((try (with_reducible rename Fr _ _ _ _ => F)); (try (with_reducible rename News _ _ _ _ => N))))
      exact ⟨h4, _, _, rfl, F4.ns, ⟨J4.base, J4.cell, J4.rd⟩, K4⟩
    | some c =>
      obtain ⟨q2, q3⟩ := k3 c hc
      obtain ⟨t2, rfl⟩ := q2.str_inv
      obtain ⟨t3, rfl⟩ := q3.str_inv
      obtain ⟨xs, hm, hlen, bk⟩ := J.rd.put (row' := rowi r1 r2 (i + 1)) hp5 (by rw [st2, hc]; simp) st3
      obtain ⟨es, ep, ho, _⟩ := dictOfH_raw hm
      have hltD : D < hh'.objs.size := Heap.lt_size ho
      ((repeat' (first | (k_unfold; (try dsimp only)) | (k_end; fail) | ((fail_if_success (with_reducible first | intro _ | refine st_and ?_ | refine st_ex ?_ | refine st_ex1 ?_ | refine st_eq ?_ | refine st_cr ?_ | refine st_td ?_ | refine st_tl ?_ | refine st_tt ?_ | refine st_tz ?_ | refine st_bs ?_ | refine st_ba ?_ | refine st_bp ?_ | refine st_bu ?_ | refine st_bg ?_ | refine st_sn ?_ | refine st_fo ?_ | refine st_al ?_ | refine st_ad ?_ | refine st_el ?_ | refine st_ed ?_ | refine st_cNq ?_ | refine st_cIn ?_ | refine st_cNn ?_)); first | walk1 | (dsimp only; (fail_if_success (with_reducible first | intro _ | refine st_and ?_ | refine st_ex ?_ | refine st_ex1 ?_ | refine st_eq ?_ | refine st_cr ?_ | refine st_td ?_ | refine st_tl ?_ | refine st_tt ?_ | refine st_tz ?_ | refine st_bs ?_ | refine st_ba ?_ | refine st_bp ?_ | refine st_bu ?_ | refine st_bg ?_ | refine st_sn ?_ | refine st_fo ?_ | refine st_al ?_ | refine st_ad ?_ | refine st_el ?_ | refine st_ed ?_ | refine st_cNq ?_ | refine st_cIn ?_ | refine st_cNn ?_)); walk1) | (leave1; walk_say "STEP leave1"; try dsimp only)) | fail "no step")); (try k_sweep); ((try (with_reducible rename Fr _ _ _ _ => F)); (try (with_reducible rename News _ _ _ _ => N))))
      refine display_one (prog := PG) (by rw [units_deeper]; omega) ?_
      have N := N.push F (dobj #[] 0)
      have F := F.push (dobj #[] 0)
      ((try (with_reducible show wpAny _ _ _ _ _ _)); (try dsimp only))
      ((repeat' (first | (k_unfold; (try dsimp only)) | (k_end; fail) | ((fail_if_success (with_reducible first | intro _ | refine st_and ?_ | refine st_ex ?_ | refine st_ex1 ?_ | refine st_eq ?_ | refine st_cr ?_ | refine st_td ?_ | refine st_tl ?_ | refine st_tt ?_ | refine st_tz ?_ | refine st_bs ?_ | refine st_ba ?_ | refine st_bp ?_ | refine st_bu ?_ | refine st_bg ?_ | refine st_sn ?_ | refine st_fo ?_ | refine st_al ?_ | refine st_ad ?_ | refine st_el ?_ | refine st_ed ?_ | refine st_cNq ?_ | refine st_cIn ?_ | refine st_cNn ?_)); first | walk1 | (dsimp only; (fail_if_success (with_reducible first | intro _ | refine st_and ?_ | refine st_ex ?_ | refine st_ex1 ?_ | refine st_eq ?_ | refine st_cr ?_ | refine st_td ?_ | refine st_tl ?_ | refine st_tt ?_ | refine st_tz ?_ | refine st_bs ?_ | refine st_ba ?_ | refine st_bp ?_ | refine st_bu ?_ | refine st_bg ?_ | refine st_sn ?_ | refine st_fo ?_ | refine st_al ?_ | refine st_ad ?_ | refine st_el ?_ | refine st_ed ?_ | refine st_cNq ?_ | refine st_cIn ?_ | refine st_cNn ?_)); walk1) | (leave1; walk_say "STEP leave1"; try dsimp only)) | fail "no step")); (try k_sweep); ((try (with_reducible rename Fr _ _ _ _ => F)); (try (with_reducible rename News _ _ _ _ => N))))
      rename_i D' h13 hl1
      have bk13 := back F N (fun p hp => by repeat (first | exact hp | refine List.Mem.tail _ ?_))
      have bk13 : ∀ b o, b ≠ s.heap.objs.size → hh'.get? b = some o → h13.get? b = some o := bk13
      have T13 : Tq hh' h13 := tq_frame hns bk13
      have hd2n : h13.get? hh'.objs.size = some (dobj #[] 0) := N.get (by (repeat (first | exact List.Mem.head _ | refine List.Mem.tail _ ?_)))
      have hd2f : s.heap.get? hh'.objs.size = none := N.fresh (a := hh'.objs.size) (o := dobj #[] 0) (by (repeat (first | exact List.Mem.head _ | refine List.Mem.tail _ ?_)))
      have hd2L : hh'.objs.size ≠ s.heap.objs.size := Nat.ne_of_gt hns.lt
      have htD : RdT h13 (.ref D') (attrT p c) := Rd.of_tup trivial (tupN N (List.Mem.head _)) (.cons ((k1.keep J.base).tq T13) (.cons (.str _ _) (.cons (.str _ _) .nil)))
      refine ⟨ka, keyL p, rfl, (let ⟨o, it, n, ho, hc, hd, q⟩ := hkey; ⟨o, it, n, T13 _ _ _ _ ho hc hd, hc, hd, q⟩), hd2n, fun h4 tk4 hm4 hs4 => ?_⟩
      have hs4k : ∀ b o, b ≠ hh'.objs.size → h13.get? b = some o → h4.get? b = some o := fun b o hb e => hs4.extBut b o hb e
      have T34 : Tq h13 h4 := Tq.of_but (X := (· = hh'.objs.size)) (fun b o q e => hs4k b o q e) (fun b o vs n q e hc hd => by subst q; rw [hd2n] at e; cases e; cases hd)
      have F4 := but_Fr' F hd2L hd2f hs4k
      have hDd2 : D ≠ hh'.objs.size := Nat.ne_of_lt hltD
      have hmD4 : h4.DictOfH (kt PG w) D xs := dictOfH_T hm (T13.trans T34) fun o e => hs4k _ o hDd2 (bk13 _ o hDL e)
      clear N F back
      have F := F4
      have N := news0 F
      ((try (with_reducible show wpAny _ _ _ _ _ _)); (try dsimp only))
      ((repeat' (first | (k_unfold; (try dsimp only)) | (k_end; fail) | ((fail_if_success (with_reducible first | intro _ | refine st_and ?_ | refine st_ex ?_ | refine st_ex1 ?_ | refine st_eq ?_ | refine st_cr ?_ | refine st_td ?_ | refine st_tl ?_ | refine st_tt ?_ | refine st_tz ?_ | refine st_bs ?_ | refine st_ba ?_ | refine st_bp ?_ | refine st_bu ?_ | refine st_bg ?_ | refine st_sn ?_ | refine st_fo ?_ | refine st_al ?_ | refine st_ad ?_ | refine st_el ?_ | refine st_ed ?_ | refine st_cNq ?_ | refine st_cIn ?_ | refine st_cNn ?_)); first | walk1 | (dsimp only; (fail_if_success (with_reducible first | intro _ | refine st_and ?_ | refine st_ex ?_ | refine st_ex1 ?_ | refine st_eq ?_ | refine st_cr ?_ | refine st_td ?_ | refine st_tl ?_ | refine st_tt ?_ | refine st_tz ?_ | refine st_bs ?_ | refine st_ba ?_ | refine st_bp ?_ | refine st_bu ?_ | refine st_bg ?_ | refine st_sn ?_ | refine st_fo ?_ | refine st_al ?_ | refine st_ad ?_ | refine st_el ?_ | refine st_ed ?_ | refine st_cNq ?_ | refine st_cIn ?_ | refine st_cNn ?_)); walk1) | (leave1; walk_say "STEP leave1"; try dsimp only)) | fail "no step")); (try k_sweep); ((try (with_reducible rename Fr _ _ _ _ => F)); (try (with_reducible rename News _ _ _ _ => N))))
      refine update_heap (by rw [units_deeper]; omega) hDd2 (beq_eq_false_iff_ne.mpr (Nat.ne_of_gt (Nat.lt_trans hsys hltD))) hmD4 hm4 (by rw [sizeLine_eq]; omega) (fun h5 tk5 hm5 hs5 => ?_)
      have hs5k : ∀ b o, b ≠ D → h4.get? b = some o → h5.get? b = some o := fun b o hb e => hs5.extBut b o hb e
      have T45 : Tq h4 h5 := Tq.of_but (X := (· = D)) (fun b o q e => hs5k b o q e) (fun b o vs n q e hc hd => by
        subst q
        obtain ⟨o', _, _, ho', _, hd', _⟩ := hmD4
        rw [ho'] at e; cases e; rw [hd'] at hd; cases hd)
      have T05 := (T13.trans T34).trans T45
      have F5 := but_Fr' F hDL hDn hs5k
      have hcd2 : s.heap.objs.size + 1 ≠ hh'.objs.size := Nat.ne_of_lt (Nat.lt_trans hlt2 hltD)
      have J5 : RowDict PG w h5 D (rowi r1 r2 (i + 1)) := by
        refine bk h5 ka (.ref D') T05 hm5 ((k1.keep J.base).tq T05) ?_
        have e : attrC (rowi r1 r2 (i + 1)) p = attrT p c := by simp only [attrC, st2, hc]
        rw [e]
        exact (htD.tq T34).tq T45
      have C5 : h5.get? (s.heap.objs.size + 1) = some oc3 := hs5k _ _ (Nat.ne_of_lt hlt2) (hs4k _ _ hcd2 (bk13 _ _ (Nat.succ_ne_self _) J.cell))
      have K5 : ∀ b o, RDs b → hh'.get? b = some o → h5.get? b = some o := fun b o hr e =>
        hs5k b o (fun q => hnRD b (.inr q) hr) (hs4k b o (Nat.ne_of_lt (Heap.lt_size e)) (bk13 b o (fun q => hnRD b (.inl q) hr) e))
      clear N F
      have F := F5
      have N := news0 F
      ((try (with_reducible show wpAny _ _ _ _ _ _)); (try dsimp only))
      ((repeat' (first | (k_unfold; (try dsimp only)) | (k_end; fail) | ((fail_if_success (with_reducible first | intro _ | refine st_and ?_ | refine st_ex ?_ | refine st_ex1 ?_ | refine st_eq ?_ | refine st_cr ?_ | refine st_td ?_ | refine st_tl ?_ | refine st_tt ?_ | refine st_tz ?_ | refine st_bs ?_ | refine st_ba ?_ | refine st_bp ?_ | refine st_bu ?_ | refine st_bg ?_ | refine st_sn ?_ | refine st_fo ?_ | refine st_al ?_ | refine st_ad ?_ | refine st_el ?_ | refine st_ed ?_ | refine st_cNq ?_ | refine st_cIn ?_ | refine st_cNn ?_)); first | walk1 | (dsimp only; (fail_if_success (with_reducible first | intro _ | refine st_and ?_ | refine st_ex ?_ | refine st_ex1 ?_ | refine st_eq ?_ | refine st_cr ?_ | refine st_td ?_ | refine st_tl ?_ | refine st_tt ?_ | refine st_tz ?_ | refine st_bs ?_ | refine st_ba ?_ | refine st_bp ?_ | refine st_bu ?_ | refine st_bg ?_ | refine st_sn ?_ | refine st_fo ?_ | refine st_al ?_ | refine st_ad ?_ | refine st_el ?_ | refine st_ed ?_ | refine st_cNq ?_ | refine st_cIn ?_ | refine st_cNn ?_)); walk1) | (leave1; walk_say "STEP leave1"; try dsimp only)) | fail "no step")); (try k_sweep); ((try (with_reducible rename Fr _ _ _ _ => F)); (try (with_reducible rename News _ _ _ _ => N))))
      exact ⟨h5, _, _, rfl, F5.ns, ⟨F5.keep, C5, J5⟩, K5⟩
  · intro h15 tk15 m15 hns15 J15
    have F : Fr s.heap s.heap.objs.size h15 _ := ⟨hns15, J15.base, F.above⟩
    clear N
    have N := news_cons (news0 F) J15.cell (Nat.succ_ne_self _) hcn
    ((try (with_reducible show wpAny _ _ _ _ _ _)); (try dsimp only))
    ((repeat' (first | (k_unfold; (try dsimp only)) | (k_end; fail) | ((fail_if_success (with_reducible first | intro _ | refine st_and ?_ | refine st_ex ?_ | refine st_ex1 ?_ | refine st_eq ?_ | refine st_cr ?_ | refine st_td ?_ | refine st_tl ?_ | refine st_tt ?_ | refine st_tz ?_ | refine st_bs ?_ | refine st_ba ?_ | refine st_bp ?_ | refine st_bu ?_ | refine st_bg ?_ | refine st_sn ?_ | refine st_fo ?_ | refine st_al ?_ | refine st_ad ?_ | refine st_el ?_ | refine st_ed ?_ | refine st_cNq ?_ | refine st_cIn ?_ | refine st_cNn ?_)); first | walk1 | (dsimp only; (fail_if_success (with_reducible first | intro _ | refine st_and ?_ | refine st_ex ?_ | refine st_ex1 ?_ | refine st_eq ?_ | refine st_cr ?_ | refine st_td ?_ | refine st_tl ?_ | refine st_tt ?_ | refine st_tz ?_ | refine st_bs ?_ | refine st_ba ?_ | refine st_bp ?_ | refine st_bu ?_ | refine st_bg ?_ | refine st_sn ?_ | refine st_fo ?_ | refine st_al ?_ | refine st_ad ?_ | refine st_el ?_ | refine st_ed ?_ | refine st_cNq ?_ | refine st_cIn ?_ | refine st_cNn ?_)); walk1) | (leave1; walk_say "STEP leave1"; try dsimp only)) | fail "no step")); (try k_sweep); ((try (with_reducible rename Fr _ _ _ _ => F)); (try (with_reducible rename News _ _ _ _ => N))))
    ((try (with_reducible show wpAny _ _ _ _ _ _)); (try dsimp only))
    k_fold
    refine anyE (lc_val (cl := [("found", s.heap.objs.size + 1)]) (hclos := ?hclos) ?_ (by decide) rfl (by decide))
    case hclos => rfl
    ((repeat' (first | (k_unfold; (try dsimp only)) | (k_end; fail) | ((fail_if_success (with_reducible first | intro _ | refine st_and ?_ | refine st_ex ?_ | refine st_ex1 ?_ | refine st_eq ?_ | refine st_cr ?_ | refine st_td ?_ | refine st_tl ?_ | refine st_tt ?_ | refine st_tz ?_ | refine st_bs ?_ | refine st_ba ?_ | refine st_bp ?_ | refine st_bu ?_ | refine st_bg ?_ | refine st_sn ?_ | refine st_fo ?_ | refine st_al ?_ | refine st_ad ?_ | refine st_el ?_ | refine st_ed ?_ | refine st_cNq ?_ | refine st_cIn ?_ | refine st_cNn ?_)); first | walk1 | (dsimp only; (fail_if_success (with_reducible first | intro _ | refine st_and ?_ | refine st_ex ?_ | refine st_ex1 ?_ | refine st_eq ?_ | refine st_cr ?_ | refine st_td ?_ | refine st_tl ?_ | refine st_tt ?_ | refine st_tz ?_ | refine st_bs ?_ | refine st_ba ?_ | refine st_bp ?_ | refine st_bu ?_ | refine st_bg ?_ | refine st_sn ?_ | refine st_fo ?_ | refine st_al ?_ | refine st_ad ?_ | refine st_el ?_ | refine st_ed ?_ | refine st_cNq ?_ | refine st_cIn ?_ | refine st_cNn ?_)); walk1) | (leave1; walk_say "STEP leave1"; try dsimp only)) | fail "no step")); (try k_sweep); ((try (with_reducible rename Fr _ _ _ _ => F)); (try (with_reducible rename News _ _ _ _ => N))))
    obtain ⟨ps, ⟨xs, hm, hk⟩, hpn2, hpm⟩ := J15.rd
    have hp5 : ∀ i ∈ ps, i < 5 := fun i hi => ((hpm i).mp hi).1
    have hlps := nodup_len 5 ps hpn2 hp5
    have hlx : xs.length = ps.length := hk.length
    have hrow : ∀ k, k < 5 → rowi r1 r2 ds.length k = r2 k := rowi_end (by omega)
    have hsp : sortN ps = present r2 := by
      unfold sortN present
      refine List.filter_congr fun k hk => ?_
      have hk5 := List.mem_range.mp hk
      have e1 : (ps.contains k = true) ↔ (r2 k).isSome = true := by
        rw [List.contains_iff_mem, hpm, hrow k hk5]
        cases r2 k <;> simp [hk5]
      cases h1 : ps.contains k <;> cases h2 : (r2 k).isSome <;> simp_all
    refine anyE (sorted_call (vs := keyVals xs) (ns := ps) F (fun Q' hq => collect_dict hh lo1 hm (by rw [sizeLine_eq]; omega) hq) (keyVals_all hk) hpn2 hp5 ?_)
    intro h16 tk16 D16 vs16 F16 k16 hD16 hpl16 hall16
    rw [hsp] at hall16
    have T16 := tq_frame F.ns k16
    have R16 : DictR PG w h16 D (attrC (rowi r1 r2 ds.length)) ps := DictR.tq ⟨xs, hm, hk⟩ T16 fun o e => k16 _ o hDL e
    have hc16 := k16 _ _ (Nat.succ_ne_self _) J15.cell
    have hl16 : vs16.length = (present r2).length := hall16.length
    have hpr5 := nodup_len 5 _ (present_nodup r2) present_lt
    ((try (with_reducible show wpAny _ _ _ _ _ _)); (try dsimp only))
    refine ⟨vs16.length, BT ["key"] (fun i ws => ∃ v, vs16[i]? = some v ∧ ws = [v]), Dat, fun j => ((present r2)[j]?).map (attrC r2), fun S h v d => Rd S h v d, h16, drawn_name hh (.inl hpl16.isList) ?_ ?_, by rw [sizeLine_eq]; omega,
      fun S h h' v x hk' r => r.mono fun b o hb e => ⟨hb, hk' b o hb e⟩, ?_, ?_, ?_⟩
    · intro C; rfl
    · intro C; rfl
    · refine tests_nil fun j hj => ?_
      rw [List.getElem?_eq_getElem (h := by omega)]; rfl
    · rintro i d s' m₀ mm C S' hi hdd ⟨ws, ⟨v, hv, rfl⟩, _, rfl⟩ hns hkp hC hS
      obtain ⟨p, hp, hky⟩ := hall16.get2 hv
      have hppr := List.mem_of_getElem? hp
      have hp5' := present_lt p hppr
      simp only [hp, Option.map_some, Option.some.injEq] at hdd
      subst hdd
      obtain ⟨ka, e, _, hkey⟩ := key_of (prog := PG) (w := w) (xs := keyL p) (hky.keep hkp)
      subst e
      obtain ⟨xs', hm', hk', hat⟩ := R16.at hp5 hp5'
      have hin : p ∈ ps := (hpm p).mpr ⟨hp5', by rw [hrow p hp5']; exact (mem_present hp5').mp hppr⟩
      rcases hat with ⟨_, ⟨qa, qv⟩, eq, hqv⟩ | ⟨hnin, _⟩
      · have hm'' := dictOfH_T hm' (Tq.of_kp hkp) (fun o e => hkp _ o e)
        have hcell : s'.heap.IsCell (s.heap.objs.size + 1) (some (.ref D)) := ⟨oc3, hkp _ _ hc16, hoc3⟩
        have nsM : NsM := ⟨⟩
        (try dsimp only)
        ((repeat' (first | (k_unfold; (try dsimp only)) | (k_end; fail) | ((fail_if_success (with_reducible first | intro _ | refine st_and ?_ | refine st_ex ?_ | refine st_ex1 ?_ | refine st_eq ?_ | refine st_cr ?_ | refine st_td ?_ | refine st_tl ?_ | refine st_tt ?_ | refine st_tz ?_ | refine st_bs ?_ | refine st_ba ?_ | refine st_bp ?_ | refine st_bu ?_ | refine st_bg ?_ | refine st_sn ?_ | refine st_fo ?_ | refine st_al ?_ | refine st_ad ?_ | refine st_el ?_ | refine st_ed ?_ | refine st_cNq ?_ | refine st_cIn ?_ | refine st_cNn ?_)); first | walk1 | (dsimp only; (fail_if_success (with_reducible first | intro _ | refine st_and ?_ | refine st_ex ?_ | refine st_ex1 ?_ | refine st_eq ?_ | refine st_cr ?_ | refine st_td ?_ | refine st_tl ?_ | refine st_tt ?_ | refine st_tz ?_ | refine st_bs ?_ | refine st_ba ?_ | refine st_bp ?_ | refine st_bu ?_ | refine st_bg ?_ | refine st_sn ?_ | refine st_fo ?_ | refine st_al ?_ | refine st_ad ?_ | refine st_el ?_ | refine st_ed ?_ | refine st_cNq ?_ | refine st_cIn ?_ | refine st_cNn ?_)); walk1) | (leave1; walk_say "STEP leave1"; try dsimp only)) | fail "no step")); (try k_sweep); ((try (with_reducible rename Fr _ _ _ _ => F)); (try (with_reducible rename News _ _ _ _ => N))))
        have e : attrC (rowi r1 r2 ds.length) p = attrC r2 p := by simp only [attrC, hrow p hp5']
        have hqv' : RdT h16 qv (attrC r2 p) := e ▸ hqv
        exact ⟨⟨_, _, rfl, fun _ _ e => e⟩, hqv'.mono fun b o _ e => ⟨hS b o (fun q => q) e, hkp b o e⟩⟩
      · exact absurd hin hnin
    · intro h17 tk17 ys17 D17 S17 hD17 hpl17 hall17 hkp17
      have F := F16.keeps hkp17
      clear N
      have N := news0 F
      ((try (with_reducible show wpAny _ _ _ _ _ _)); (try dsimp only))
      ((repeat' (first | (k_unfold; (try dsimp only)) | (k_end; fail) | ((fail_if_success (with_reducible first | intro _ | refine st_and ?_ | refine st_ex ?_ | refine st_ex1 ?_ | refine st_eq ?_ | refine st_cr ?_ | refine st_td ?_ | refine st_tl ?_ | refine st_tt ?_ | refine st_tz ?_ | refine st_bs ?_ | refine st_ba ?_ | refine st_bp ?_ | refine st_bu ?_ | refine st_bg ?_ | refine st_sn ?_ | refine st_fo ?_ | refine st_al ?_ | refine st_ad ?_ | refine st_el ?_ | refine st_ed ?_ | refine st_cNq ?_ | refine st_cIn ?_ | refine st_cNn ?_)); first | walk1 | (dsimp only; (fail_if_success (with_reducible first | intro _ | refine st_and ?_ | refine st_ex ?_ | refine st_ex1 ?_ | refine st_eq ?_ | refine st_cr ?_ | refine st_td ?_ | refine st_tl ?_ | refine st_tt ?_ | refine st_tz ?_ | refine st_bs ?_ | refine st_ba ?_ | refine st_bp ?_ | refine st_bu ?_ | refine st_bg ?_ | refine st_sn ?_ | refine st_fo ?_ | refine st_al ?_ | refine st_ad ?_ | refine st_el ?_ | refine st_ed ?_ | refine st_cNq ?_ | refine st_cIn ?_ | refine st_cNn ?_)); walk1) | (leave1; walk_say "STEP leave1"; try dsimp only)) | fail "no step")); (try k_sweep); ((try (with_reducible rename Fr _ _ _ _ => F)); (try (with_reducible rename News _ _ _ _ => N))))
      have hy17 : RdsT h17 ys17 (attrs r2) := by
        rw [hl16, range_get] at hall17
        have r := RdAll.of_all2 (f := id) (S := S17) (h := h17) (fun _ _ r => r) hall17
        rw [List.map_id, ← attrs_eq] at r
        exact r.top
      have hl17 : ys17.length = (present r2).length := by
        have h1 := hall17.length
        rw [hl16, range_get] at h1
        simpa using h1
      refine call_tuple_list hpl17.isList (fun h18 hk18 => ?_) (by rw [List.size_toArray, sizeLine_eq]; omega)
      have F := (F.keeps hk18).push { cls := .type "tuple", data := .seq ys17.toArray }
      have N := news0 F
      ((try (with_reducible show wpAny _ _ _ _ _ _)); (try dsimp only))
      ((repeat' (first | (k_unfold; (try dsimp only)) | (k_end; fail) | ((fail_if_success (with_reducible first | intro _ | refine st_and ?_ | refine st_ex ?_ | refine st_ex1 ?_ | refine st_eq ?_ | refine st_cr ?_ | refine st_td ?_ | refine st_tl ?_ | refine st_tt ?_ | refine st_tz ?_ | refine st_bs ?_ | refine st_ba ?_ | refine st_bp ?_ | refine st_bu ?_ | refine st_bg ?_ | refine st_sn ?_ | refine st_fo ?_ | refine st_al ?_ | refine st_ad ?_ | refine st_el ?_ | refine st_ed ?_ | refine st_cNq ?_ | refine st_cIn ?_ | refine st_cNn ?_)); first | walk1 | (dsimp only; (fail_if_success (with_reducible first | intro _ | refine st_and ?_ | refine st_ex ?_ | refine st_ex1 ?_ | refine st_eq ?_ | refine st_cr ?_ | refine st_td ?_ | refine st_tl ?_ | refine st_tt ?_ | refine st_tz ?_ | refine st_bs ?_ | refine st_ba ?_ | refine st_bp ?_ | refine st_bu ?_ | refine st_bg ?_ | refine st_sn ?_ | refine st_fo ?_ | refine st_al ?_ | refine st_ad ?_ | refine st_el ?_ | refine st_ed ?_ | refine st_cNq ?_ | refine st_cIn ?_ | refine st_cNn ?_)); walk1) | (leave1; walk_say "STEP leave1"; try dsimp only)) | fail "no step")); (try k_sweep); ((try (with_reducible rename Fr _ _ _ _ => F)); (try (with_reducible rename News _ _ _ _ => N))))
      refine hQ _ _ _ F.keep (Rd.of_tup trivial ⟨_, Heap.get?_push_size _ rfl, rfl, _, rfl⟩ ?_)
      exact (hy17.keep hk18).keep fun b o e => Heap.get?_push_of_some _ e
end
section
variable {prog : Program} {w : World} {A : Around} {s : Shared} {E : Value → Shared → Prop}
theorem list_sub {value slice : Expr} {l : Addr} {vs : List Value} {k : Int} {u : Tok} {x : Value} {Q : Value → Shared → Prop} (hl : s.heap.IsList l vs.toArray) (h0 : 0 ≤ k) (hf : k < 2 ^ 63) (hx : vs[k.toNat]? = some x) (h : Q x s)
    (hs : subscripted slice false (.ref l) (.int k u) = operate [.ref l, .int k u] (getItem (.ref l) (.int k u)) := by with_unfolding_all rfl) (hg : ∀ r, letTemporaryGo value (.ref l) r = pure () := by intro _; with_unfolding_all rfl) :
    wpAny (model prog w) A (subscriptTail value slice (.ref l) (.int k u)) Q E s :=
  subscriptTail_builtin hl.typeIs slot_list_getitem.lookup (wpAny_getItem_list hl h0 hf (by simpa using hx) h) hs hg
end
theorem pl_base {h₀ h : Heap} {L t : Addr} {m : Str → Option Value} {vs : Array Value} (F : Fr h₀ L h m) (x : h₀.PlainList t vs) : h.IsList t vs := (x.at fun o e => F.keep _ o e).isList
local macro_rules | `(tactic| walk_at "subscriptTail") => `(tactic| ((with_reducible show wpAny _ _ (subscriptTail _ _ (Value.ref _) (Value.int _ _)) _ _ _); k_dflt (refine' list_sub ?l ?a ?b ?c ?_; (case l => exact pl_base (by assumption) (by assumption)); (case a => decide); (case b => decide); (case c => rfl))))
theorem attrs_ok {r : Row} (hr : RowOk r) : kqdOk 8 (.tuple (attrs r)) = true := by
  have h : ∀ d ∈ attrs r, kqdOk 7 d = true := by
    intro d hd
    obtain ⟨i, hi, e⟩ := List.mem_filterMap.mp hd
    cases hc : r i with
    | none => rw [hc] at e; cases e
    | some c =>
      rw [hc] at e; cases e
      have := hr i c hc
      have k1 : PyData.strOk (keyD i).1 = true ∧ PyData.strOk (keyD i).2 = true := by
        have : i < 5 := List.mem_range.mp hi
        revert i; intro i; intros
        match i, this with
        | 0, _ => exact ⟨by decide +kernel, by decide +kernel⟩
        | 1, _ => exact ⟨by decide +kernel, by decide +kernel⟩
        | 2, _ => exact ⟨by decide +kernel, by decide +kernel⟩
        | 3, _ => exact ⟨by decide +kernel, by decide +kernel⟩
        | 4, _ => exact ⟨by decide +kernel, by decide +kernel⟩
      simp [attrT, keyT, kqdOk, k1.1, k1.2, this.1, this.2]
  simpa [kqdOk] using h
theorem dueD_ok {r1 r2 : Row} (hr : RowOk r2) : ∀ d ∈ dueD r1 r2, kqdOk 8 d = true := by
  intro d hd
  obtain ⟨i, hi, e⟩ := List.mem_map.mp hd
  have hi5 := (diffs_mem.mp hi).1
  have k1 : PyData.strOk (keyD i).1 = true ∧ PyData.strOk (keyD i).2 = true := by
    match i, hi5 with
    | 0, _ => exact ⟨by decide +kernel, by decide +kernel⟩
    | 1, _ => exact ⟨by decide +kernel, by decide +kernel⟩
    | 2, _ => exact ⟨by decide +kernel, by decide +kernel⟩
    | 3, _ => exact ⟨by decide +kernel, by decide +kernel⟩
    | 4, _ => exact ⟨by decide +kernel, by decide +kernel⟩
  subst e
  cases hc : r2 i with
  | none => simp [dueT, keyT, kqdOk, k1.1, k1.2]
  | some c =>
    have := hr i c hc
    simp [dueT, keyT, kqdOk, k1.1, k1.2, this.1, this.2]
theorem RowL.keep {h h' : Heap} {l : Addr} {r : Row} (x : RowL h l r) (k : Kp h h') : RowL h' l r :=
  let ⟨ok, ys, hp, ha⟩ := x; ⟨ok, ys, hp.at fun o e => k _ o e, ha.mono fun _ _ q => q.keep k⟩
theorem ne_intB {prog : Program} {w : World} {A : Around} {E : Value → Shared → Prop} {s : Shared} {a : Int} {t u : Tok} {Q : Value → Shared → Prop} (h : Q (.bool false) s) : wpAny (model prog w) A (compareOp .NotEq (.int a t) (.int a u)) Q E s := by
  refine PySem.P.ne_int ?_
  simpa using h
theorem expl3 {m : Str → Option Value} {x y z : Str} {a b c : Value} (hx : m x = some a) (hy : m y = some b) (hz : m z = some c) : m = fun n => if n = x then some a else if n = y then some b else if n = z then some c else m n := by
  funext n
  by_cases h1 : n = x
  · subst h1; simp [hx]
  · by_cases h2 : n = y
    · subst h2; simp [h1, hy]
    · by_cases h3 : n = z
      · subst h3; simp [h1, h2, hz]
      · simp [h1, h2, h3]
section
variable {w : World} {mg mb : Str → Option Value} {A : Around} {s : Shared} {Q : Value → Shared → Prop}
set_option maxHeartbeats 4000000 in
theorem right_call (hh : A.handled = none) (hdp : A.depth + 15 < recursionLimit) (hu : A.units + 300 < cLine) (G : G0 w mg mb s.heap) {wl rl p0 p1 : Addr} {kd w0 w1 : Str} {tk t0 t1 : Tok} {r0 r1 : Row}
    (hw : s.heap.PlainList wl [.str w0 t0, .str w1 t1].toArray) (hr : s.heap.PlainList rl [.ref p0, .ref p1].toArray) (h0 : RowL s.heap p0 r0) (h1 : RowL s.heap p1 r1)
    (hQ : ∀ h' tk, Kp s.heap h' → Q (.bool true) { s with heap := h', toks := tk }) :
    wpAny (model PySem.Challenge.rw_xm0645_01.row.prog w) A (call (.ref 83) [.str kd tk, .ref wl, .ref rl]) Q F0 s := by
  (refine wpAny_call ?_; refine call_pos_ret (by omega) ((G).K 83 _ rfl) rfl (G).T.nolimit (codeRec_of (G).K rfl) rfl (locs rfl) ?_; intro h₁ F; have X := (G).K; have T := (G).T; have N := news0 F)
  ((repeat' (first | (k_unfold; (try dsimp only)) | (k_end; fail) | ((fail_if_success (with_reducible first | intro _ | refine st_and ?_ | refine st_ex ?_ | refine st_ex1 ?_ | refine st_eq ?_ | refine st_cr ?_ | refine st_td ?_ | refine st_tl ?_ | refine st_tt ?_ | refine st_tz ?_ | refine st_bs ?_ | refine st_ba ?_ | refine st_bp ?_ | refine st_bu ?_ | refine st_bg ?_ | refine st_sn ?_ | refine st_fo ?_ | refine st_al ?_ | refine st_ad ?_ | refine st_el ?_ | refine st_ed ?_ | refine st_cNq ?_ | refine st_cIn ?_ | refine st_cNn ?_)); first | walk1 | (dsimp only; (fail_if_success (with_reducible first | intro _ | refine st_and ?_ | refine st_ex ?_ | refine st_ex1 ?_ | refine st_eq ?_ | refine st_cr ?_ | refine st_td ?_ | refine st_tl ?_ | refine st_tt ?_ | refine st_tz ?_ | refine st_bs ?_ | refine st_ba ?_ | refine st_bp ?_ | refine st_bu ?_ | refine st_bg ?_ | refine st_sn ?_ | refine st_fo ?_ | refine st_al ?_ | refine st_ad ?_ | refine st_el ?_ | refine st_ed ?_ | refine st_cNq ?_ | refine st_cIn ?_ | refine st_cNn ?_)); walk1) | (leave1; walk_say "STEP leave1"; try dsimp only)) | fail "no step")); (try k_sweep); ((try (with_reducible rename Fr _ _ _ _ => F)); (try (with_reducible rename News _ _ _ _ => N))))
  ((try (with_reducible show wpAny _ _ _ _ _ _)); (try dsimp only))
  k_fold
  refine anyE (wpAny_For ?_)
  ((repeat' (first | (k_unfold; (try dsimp only)) | (k_end; fail) | ((fail_if_success (with_reducible first | intro _ | refine st_and ?_ | refine st_ex ?_ | refine st_ex1 ?_ | refine st_eq ?_ | refine st_cr ?_ | refine st_td ?_ | refine st_tl ?_ | refine st_tt ?_ | refine st_tz ?_ | refine st_bs ?_ | refine st_ba ?_ | refine st_bp ?_ | refine st_bu ?_ | refine st_bg ?_ | refine st_sn ?_ | refine st_fo ?_ | refine st_al ?_ | refine st_ad ?_ | refine st_el ?_ | refine st_ed ?_ | refine st_cNq ?_ | refine st_cIn ?_ | refine st_cNn ?_)); first | walk1 | (dsimp only; (fail_if_success (with_reducible first | intro _ | refine st_and ?_ | refine st_ex ?_ | refine st_ex1 ?_ | refine st_eq ?_ | refine st_cr ?_ | refine st_td ?_ | refine st_tl ?_ | refine st_tt ?_ | refine st_tz ?_ | refine st_bs ?_ | refine st_ba ?_ | refine st_bp ?_ | refine st_bu ?_ | refine st_bg ?_ | refine st_sn ?_ | refine st_fo ?_ | refine st_al ?_ | refine st_ad ?_ | refine st_el ?_ | refine st_ed ?_ | refine st_cNq ?_ | refine st_cIn ?_ | refine st_cNn ?_)); walk1) | (leave1; walk_say "STEP leave1"; try dsimp only)) | fail "no step")); (try k_sweep); ((try (with_reducible rename Fr _ _ _ _ => F)); (try (with_reducible rename News _ _ _ _ => N))))
  rename_i Da h5 _ Db h6 _ l5 h7 _
  ((try (with_reducible show wpAny _ _ _ _ _ _)); (try dsimp only))
  have hl7 : h7.PlainList l5 [.ref Da, .ref Db].toArray := plN N (List.Mem.head _)
  have hl0 : s.heap.get? l5 = none := N.fresh (List.Mem.head _)
  have hbn : s.heap.get? s.heap.objs.size = none := fresh_none (Nat.le_refl _)
  have hta : ∃ u v, IsTup h7 Da [.int 0 u, .int 1 v].toArray := ⟨_, _, tupN N (by (repeat (first | exact List.Mem.head _ | refine List.Mem.tail _ ?_)))⟩
  have htb : ∃ u v, IsTup h7 Db [.int 1 u, .int 0 v].toArray := ⟨_, _, tupN N (by (repeat (first | exact List.Mem.head _ | refine List.Mem.tail _ ?_)))⟩
  have nsT : ∀ {q : Addr} {vs : Array Value}, IsTup h7 q vs → ¬ q = s.heap.objs.size := fun ht e => tup_ne_ns F.ns ht e
  refine anyE (list_for_tup2 (U := fun b => b = s.heap.objs.size) (xs := ["one", "two"]) (vs := [.ref Da, .ref Db]) (B := fun i ws => ∃ a b t t', ws = [.int a t, .int b t'] ∧ ((i = 0 ∧ a = 0 ∧ b = 1) ∨ (i = 1 ∧ a = 1 ∧ b = 0))) hh hl7.isList ?_ ?_ ?_ ?_)
  · intro i v hv
    obtain ⟨ua, va, hta⟩ := hta
    obtain ⟨ub, vb, htb⟩ := htb
    match i, hv with
    | 0, hv => simp at hv; subst hv; exact ⟨Da, _, rfl, nsT hta, hta, rfl, 0, 1, ua, va, rfl, .inl ⟨rfl, rfl, rfl⟩⟩
    | 1, hv => simp at hv; subst hv; exact ⟨Db, _, rfl, nsT htb, htb, rfl, 1, 0, ub, vb, rfl, .inr ⟨rfl, rfl, rfl⟩⟩
    | i + 2, hv => simp at hv
  · rintro b rfl; exact F.ns.lt
  · exact pl_ne_ns F.ns hl7
  intro I RDs St h12 It hSt hst0 hnRD hI kp12
  refine for_block2 (fun _ m h => Kp s.heap h ∧ m "kind" = some (.str kd tk) ∧ m "worths" = some (.ref wl) ∧ m "rows" = some (.ref rl)) (It (.cons (.cons .nil)) ?_ (fun C => rfl)) (hnRD _ rfl) hst0 (F.ns.at' fun o e => kp12 _ o e) ⟨fun b o e => kp12 b o (F.keep b o e), rfl, rfl, rfl⟩ ?_ ?_ ?_
  · intro C x hx; simp at hx; rcases hx with rfl | rfl <;> rfl
  · intro i m m₁ h h' st hn hk J
    refine ⟨fun b o e => ?_, J.2⟩
    refine hk b o (fun q => ?_) (fun q => ?_) (J.1 b o e)
    · have e' := F.keep b o e
      rw [List.mem_singleton.mp q, hI] at e'; cases e'
    · rw [show b = s.heap.objs.size from q, hbn] at e; cases e
  · rintro i s' m₀ m hi J ⟨ws, ⟨a, b, ta, tb, rfl, hab⟩, _, rfl⟩ hns hst ⟨hh', tk', rfl⟩
    obtain ⟨J, e1, e2, e3⟩ := J
    rw [expl3 e1 e2 e3] at hns
    have F : Fr s.heap s.heap.objs.size hh' _ := ⟨hns, J, F.above⟩
    clear N
    have N := news0 F
    rcases hab with ⟨rfl, rfl, rfl⟩ | ⟨rfl, rfl, rfl⟩
    · ((repeat' (first | (k_unfold; (try dsimp only)) | (k_end; fail) | ((fail_if_success (with_reducible first | intro _ | refine st_and ?_ | refine st_ex ?_ | refine st_ex1 ?_ | refine st_eq ?_ | refine st_cr ?_ | refine st_td ?_ | refine st_tl ?_ | refine st_tt ?_ | refine st_tz ?_ | refine st_bs ?_ | refine st_ba ?_ | refine st_bp ?_ | refine st_bu ?_ | refine st_bg ?_ | refine st_sn ?_ | refine st_fo ?_ | refine st_al ?_ | refine st_ad ?_ | refine st_el ?_ | refine st_ed ?_ | refine st_cNq ?_ | refine st_cIn ?_ | refine st_cNn ?_)); first | walk1 | (dsimp only; (fail_if_success (with_reducible first | intro _ | refine st_and ?_ | refine st_ex ?_ | refine st_ex1 ?_ | refine st_eq ?_ | refine st_cr ?_ | refine st_td ?_ | refine st_tl ?_ | refine st_tt ?_ | refine st_tz ?_ | refine st_bs ?_ | refine st_ba ?_ | refine st_bp ?_ | refine st_bu ?_ | refine st_bg ?_ | refine st_sn ?_ | refine st_fo ?_ | refine st_al ?_ | refine st_ad ?_ | refine st_el ?_ | refine st_ed ?_ | refine st_cNq ?_ | refine st_cIn ?_ | refine st_cNn ?_)); walk1) | (leave1; walk_say "STEP leave1"; try dsimp only)) | fail "no step")); (try k_sweep); ((try (with_reducible rename Fr _ _ _ _ => F)); (try (with_reducible rename News _ _ _ _ => N))))
      refine ⟨fun a o e => F.keep _ _ (X a o e), ?_⟩
      ((try (with_reducible show wpAny _ _ _ _ _ _)); (try dsimp only))
      k_fold
      refine anyE (form_call (mg := mg) (mb := mb) (row := r0) ?hh ?hd ?hu ?hG ?hr ?_)
      case hh => exact hh
      case hd => rw [depth_deeper]; omega
      case hu => rw [units_deeper]; omega
      case hG => exact G.keep F.keep
      case hr => exact (h0).keep F.keep
      intro h20 tk20 a20 kp20 hf20
      have K : ∀ b o, b ≠ s.heap.objs.size → hh'.get? b = some o → h20.get? b = some o := fun b o _ e => kp20 b o e
      have F := F.keeps kp20
      clear N
      have N := news0 F
      ((try (with_reducible show wpAny _ _ _ _ _ _)); (try dsimp only))
      ((repeat' (first | (k_unfold; (try dsimp only)) | (k_end; fail) | ((fail_if_success (with_reducible first | intro _ | refine st_and ?_ | refine st_ex ?_ | refine st_ex1 ?_ | refine st_eq ?_ | refine st_cr ?_ | refine st_td ?_ | refine st_tl ?_ | refine st_tt ?_ | refine st_tz ?_ | refine st_bs ?_ | refine st_ba ?_ | refine st_bp ?_ | refine st_bu ?_ | refine st_bg ?_ | refine st_sn ?_ | refine st_fo ?_ | refine st_al ?_ | refine st_ad ?_ | refine st_el ?_ | refine st_ed ?_ | refine st_cNq ?_ | refine st_cIn ?_ | refine st_cNn ?_)); first | walk1 | (dsimp only; (fail_if_success (with_reducible first | intro _ | refine st_and ?_ | refine st_ex ?_ | refine st_ex1 ?_ | refine st_eq ?_ | refine st_cr ?_ | refine st_td ?_ | refine st_tl ?_ | refine st_tt ?_ | refine st_tz ?_ | refine st_bs ?_ | refine st_ba ?_ | refine st_bp ?_ | refine st_bu ?_ | refine st_bg ?_ | refine st_sn ?_ | refine st_fo ?_ | refine st_al ?_ | refine st_ad ?_ | refine st_el ?_ | refine st_ed ?_ | refine st_cNq ?_ | refine st_cIn ?_ | refine st_cNn ?_)); walk1) | (leave1; walk_say "STEP leave1"; try dsimp only)) | fail "no step")); (try k_sweep); ((try (with_reducible rename Fr _ _ _ _ => F)); (try (with_reducible rename News _ _ _ _ => N))))
      refine ⟨fun a o e => F.keep _ _ (X a o e), ?_⟩
      ((try (with_reducible show wpAny _ _ _ _ _ _)); (try dsimp only))
      k_fold
      refine anyE (form_call (mg := mg) (mb := mb) (row := r1) ?hh ?hd ?hu ?hG ?hr ?_)
      case hh => exact hh
      case hd => rw [depth_deeper]; omega
      case hu => rw [units_deeper]; omega
      case hG => exact G.keep F.keep
      case hr => exact (h1).keep F.keep
      intro h21 tk21 a21 kp21 hf21
      have hf20 := hf20.keep kp21
      have K : ∀ b o, b ≠ s.heap.objs.size → hh'.get? b = some o → h21.get? b = some o := fun b o hb e => kp21 b o (K b o hb e)
      have F := F.keeps kp21
      have hns21 := F.ns
      clear N
      obtain ⟨nl, N, back⟩ := all_news F
      ((try (with_reducible show wpAny _ _ _ _ _ _)); (try dsimp only))
      ((repeat' (first | (k_unfold; (try dsimp only)) | (k_end; fail) | ((fail_if_success (with_reducible first | intro _ | refine st_and ?_ | refine st_ex ?_ | refine st_ex1 ?_ | refine st_eq ?_ | refine st_cr ?_ | refine st_td ?_ | refine st_tl ?_ | refine st_tt ?_ | refine st_tz ?_ | refine st_bs ?_ | refine st_ba ?_ | refine st_bp ?_ | refine st_bu ?_ | refine st_bg ?_ | refine st_sn ?_ | refine st_fo ?_ | refine st_al ?_ | refine st_ad ?_ | refine st_el ?_ | refine st_ed ?_ | refine st_cNq ?_ | refine st_cIn ?_ | refine st_cNn ?_)); first | walk1 | (dsimp only; (fail_if_success (with_reducible first | intro _ | refine st_and ?_ | refine st_ex ?_ | refine st_ex1 ?_ | refine st_eq ?_ | refine st_cr ?_ | refine st_td ?_ | refine st_tl ?_ | refine st_tt ?_ | refine st_tz ?_ | refine st_bs ?_ | refine st_ba ?_ | refine st_bp ?_ | refine st_bu ?_ | refine st_bg ?_ | refine st_sn ?_ | refine st_fo ?_ | refine st_al ?_ | refine st_ad ?_ | refine st_el ?_ | refine st_ed ?_ | refine st_cNq ?_ | refine st_cIn ?_ | refine st_cNn ?_)); walk1) | (leave1; walk_say "STEP leave1"; try dsimp only)) | fail "no step")); (try k_sweep); ((try (with_reducible rename Fr _ _ _ _ => F)); (try (with_reducible rename News _ _ _ _ => N))))
      rename_i D' h22 hl22
      have htD : IsTup h22 D' #[.ref a20, .ref a21] := tupN N (List.Mem.head _)
      have bk := back F N (fun p hp => List.Mem.tail _ hp)
      have T22 := tq_frame hns21 bk
      ((try (with_reducible show wpAny _ _ _ _ _ _)); (try dsimp only))
      refine anyE (show wpAny _ _ (unpackItems (.ref D') 2 none) _ F0 _ from wpAny_unpackItems_tuple (items := #[.ref a20, .ref a21]) hh htD fun h23 he => ?_)
      have K : ∀ b o, b ≠ s.heap.objs.size → hh'.get? b = some o → h22.get? b = some o := fun b o hb e => bk b o hb (K b o hb e)
      have kp23 : Kp h22 h23 := fun b o e => he b o (Nat.ne_of_lt (Heap.lt_size e)) e
      have hf20 := (hf20.tq T22).keep kp23
      have K : ∀ b o, b ≠ s.heap.objs.size → hh'.get? b = some o → h23.get? b = some o := fun b o hb e => kp23 b o (K b o hb e)
      have hf21 := (hf21.tq T22).keep kp23
      have F := F.keeps kp23
      have hns23 := F.ns
      clear N back
      obtain ⟨nl, N, back⟩ := all_news F
      ((try (with_reducible show wpAny _ _ _ _ _ _)); (try dsimp only))
      ((repeat' (first | (k_unfold; (try dsimp only)) | (k_end; fail) | ((fail_if_success (with_reducible first | intro _ | refine st_and ?_ | refine st_ex ?_ | refine st_ex1 ?_ | refine st_eq ?_ | refine st_cr ?_ | refine st_td ?_ | refine st_tl ?_ | refine st_tt ?_ | refine st_tz ?_ | refine st_bs ?_ | refine st_ba ?_ | refine st_bp ?_ | refine st_bu ?_ | refine st_bg ?_ | refine st_sn ?_ | refine st_fo ?_ | refine st_al ?_ | refine st_ad ?_ | refine st_el ?_ | refine st_ed ?_ | refine st_cNq ?_ | refine st_cIn ?_ | refine st_cNn ?_)); first | walk1 | (dsimp only; (fail_if_success (with_reducible first | intro _ | refine st_and ?_ | refine st_ex ?_ | refine st_ex1 ?_ | refine st_eq ?_ | refine st_cr ?_ | refine st_td ?_ | refine st_tl ?_ | refine st_tt ?_ | refine st_tz ?_ | refine st_bs ?_ | refine st_ba ?_ | refine st_bp ?_ | refine st_bu ?_ | refine st_bg ?_ | refine st_sn ?_ | refine st_fo ?_ | refine st_al ?_ | refine st_ad ?_ | refine st_el ?_ | refine st_ed ?_ | refine st_cNq ?_ | refine st_cIn ?_ | refine st_cNn ?_)); walk1) | (leave1; walk_say "STEP leave1"; try dsimp only)) | fail "no step")); (try k_sweep); ((try (with_reducible rename Fr _ _ _ _ => F)); (try (with_reducible rename News _ _ _ _ => N))))
      have bk24 := back F N (fun p hp => hp)
      have T24 := tq_frame hns23 bk24
      have K := fun b o hb e => bk24 b o hb (K b o hb e)
      have hf20 := hf20.tq T24
      have hf21 := hf21.tq T24
      clear T24 back bk24
      refine ⟨fun a o e => F.keep _ _ (X a o e), ?_⟩
      ((try (with_reducible show wpAny _ _ _ _ _ _)); (try dsimp only))
      k_fold
      refine anyE (due_call (mg := mg) (mb := mb) (r1 := r0) (r2 := r1) ?hh ?hd ?hu ?hG ?hr1 ?hr2 ?_)
      case hh => exact hh
      case hd => rw [depth_deeper]; omega
      case hu => rw [units_deeper]; omega
      case hG => exact G.keep F.keep
      case hr1 => exact h0.keep F.keep
      case hr2 => exact h1.keep F.keep
      intro h25 tk25 D25 ys25 kp25 hD25 hpl25 hys25
      have hD0 : s.heap.get? D25 = none := by
        cases e : s.heap.get? D25 with
        | none => rfl
        | some o => have e' := F.keep _ _ e; rw [hD25] at e'; cases e'
      have hf20 := hf20.keep kp25
      have K : ∀ b o, b ≠ s.heap.objs.size → hh'.get? b = some o → h25.get? b = some o := fun b o hb e => kp25 b o (K b o hb e)
      have hf21 := hf21.keep kp25
      have F := F.keeps kp25
      have hns25 := F.ns
      clear N
      obtain ⟨nl, N, back⟩ := all_news F
      ((try (with_reducible show wpAny _ _ _ _ _ _)); (try dsimp only))
      ((repeat' (first | (k_unfold; (try dsimp only)) | (k_end; fail) | ((fail_if_success (with_reducible first | intro _ | refine st_and ?_ | refine st_ex ?_ | refine st_ex1 ?_ | refine st_eq ?_ | refine st_cr ?_ | refine st_td ?_ | refine st_tl ?_ | refine st_tt ?_ | refine st_tz ?_ | refine st_bs ?_ | refine st_ba ?_ | refine st_bp ?_ | refine st_bu ?_ | refine st_bg ?_ | refine st_sn ?_ | refine st_fo ?_ | refine st_al ?_ | refine st_ad ?_ | refine st_el ?_ | refine st_ed ?_ | refine st_cNq ?_ | refine st_cIn ?_ | refine st_cNn ?_)); first | walk1 | (dsimp only; (fail_if_success (with_reducible first | intro _ | refine st_and ?_ | refine st_ex ?_ | refine st_ex1 ?_ | refine st_eq ?_ | refine st_cr ?_ | refine st_td ?_ | refine st_tl ?_ | refine st_tt ?_ | refine st_tz ?_ | refine st_bs ?_ | refine st_ba ?_ | refine st_bp ?_ | refine st_bu ?_ | refine st_bg ?_ | refine st_sn ?_ | refine st_fo ?_ | refine st_al ?_ | refine st_ad ?_ | refine st_el ?_ | refine st_ed ?_ | refine st_cNq ?_ | refine st_cIn ?_ | refine st_cNn ?_)); walk1) | (leave1; walk_say "STEP leave1"; try dsimp only)) | fail "no step")); (try k_sweep); ((try (with_reducible rename Fr _ _ _ _ => F)); (try (with_reducible rename News _ _ _ _ => N))))
      have bk26 := back F N (fun p hp => hp)
      have T26 := tq_frame hns25 bk26
      have K := fun b o hb e => bk26 b o hb (K b o hb e)
      have hf20 := hf20.tq T26
      have hf21 := hf21.tq T26
      have hys26 := hys25.tq T26
      have hDL := pl_ne_ns hns25 hpl25
      have hpl26 := hpl25.at fun o e => bk26 _ o hDL e
      clear T26 back bk26
      refine ⟨fun a o e => F.keep _ _ (X a o e), ?_⟩
      ((try (with_reducible show wpAny _ _ _ _ _ _)); (try dsimp only))
      k_fold
      refine anyE (unlike_call (mg := mg) (mb := mb) (r1 := r0) (r2 := r1) (va := .ref a20) (vb := .ref a21) ?hh ?hd ?hu ?hG hf20 hf21 h0.1 h1.1 ?_)
      case hh => exact hh
      case hd => rw [depth_deeper]; omega
      case hu => rw [units_deeper]; omega
      case hG => exact G.keep F.keep
      intro h27 tk27 D27 ys27 kp27 hD27 hpl27 hys27
      have hf20 := hf20.keep kp27
      have K : ∀ b o, b ≠ s.heap.objs.size → hh'.get? b = some o → h27.get? b = some o := fun b o hb e => kp27 b o (K b o hb e)
      have hf21 := hf21.keep kp27
      have hys27' := hys26.keep kp27
      have hpl27' := hpl26.at fun o e => kp27 _ o e
      have F := F.keeps kp27
      clear N
      have N := news0 F
      ((try (with_reducible show wpAny _ _ _ _ _ _)); (try dsimp only))
      ((repeat' (first | (k_unfold; (try dsimp only)) | (k_end; fail) | ((fail_if_success (with_reducible first | intro _ | refine st_and ?_ | refine st_ex ?_ | refine st_ex1 ?_ | refine st_eq ?_ | refine st_cr ?_ | refine st_td ?_ | refine st_tl ?_ | refine st_tt ?_ | refine st_tz ?_ | refine st_bs ?_ | refine st_ba ?_ | refine st_bp ?_ | refine st_bu ?_ | refine st_bg ?_ | refine st_sn ?_ | refine st_fo ?_ | refine st_al ?_ | refine st_ad ?_ | refine st_el ?_ | refine st_ed ?_ | refine st_cNq ?_ | refine st_cIn ?_ | refine st_cNn ?_)); first | walk1 | (dsimp only; (fail_if_success (with_reducible first | intro _ | refine st_and ?_ | refine st_ex ?_ | refine st_ex1 ?_ | refine st_eq ?_ | refine st_cr ?_ | refine st_td ?_ | refine st_tl ?_ | refine st_tt ?_ | refine st_tz ?_ | refine st_bs ?_ | refine st_ba ?_ | refine st_bp ?_ | refine st_bu ?_ | refine st_bg ?_ | refine st_sn ?_ | refine st_fo ?_ | refine st_al ?_ | refine st_ad ?_ | refine st_el ?_ | refine st_ed ?_ | refine st_cNq ?_ | refine st_cIn ?_ | refine st_cNn ?_)); walk1) | (leave1; walk_say "STEP leave1"; try dsimp only)) | fail "no step")); (try k_sweep); ((try (with_reducible rename Fr _ _ _ _ => F)); (try (with_reducible rename News _ _ _ _ => N))))
      refine ne_lists hpl27.isList hpl27'.isList hys27 hys27' (dueD_ok h1.1) (dueD_ok h1.1) (by rw [units_deeper]; omega) ?_
      rw [eqB_self, show (!true) = false from rfl]
      ((repeat' (first | (k_unfold; (try dsimp only)) | (k_end; fail) | ((fail_if_success (with_reducible first | intro _ | refine st_and ?_ | refine st_ex ?_ | refine st_ex1 ?_ | refine st_eq ?_ | refine st_cr ?_ | refine st_td ?_ | refine st_tl ?_ | refine st_tt ?_ | refine st_tz ?_ | refine st_bs ?_ | refine st_ba ?_ | refine st_bp ?_ | refine st_bu ?_ | refine st_bg ?_ | refine st_sn ?_ | refine st_fo ?_ | refine st_al ?_ | refine st_ad ?_ | refine st_el ?_ | refine st_ed ?_ | refine st_cNq ?_ | refine st_cIn ?_ | refine st_cNn ?_)); first | walk1 | (dsimp only; (fail_if_success (with_reducible first | intro _ | refine st_and ?_ | refine st_ex ?_ | refine st_ex1 ?_ | refine st_eq ?_ | refine st_cr ?_ | refine st_td ?_ | refine st_tl ?_ | refine st_tt ?_ | refine st_tz ?_ | refine st_bs ?_ | refine st_ba ?_ | refine st_bp ?_ | refine st_bu ?_ | refine st_bg ?_ | refine st_sn ?_ | refine st_fo ?_ | refine st_al ?_ | refine st_ad ?_ | refine st_el ?_ | refine st_ed ?_ | refine st_cNq ?_ | refine st_cIn ?_ | refine st_cNn ?_)); walk1) | (leave1; walk_say "STEP leave1"; try dsimp only)) | fail "no step")); (try k_sweep); ((try (with_reducible rename Fr _ _ _ _ => F)); (try (with_reducible rename News _ _ _ _ => N))))
      refine ⟨fun a o e => F.keep _ _ (X a o e), ?_⟩
      ((try (with_reducible show wpAny _ _ _ _ _ _)); (try dsimp only))
      k_fold
      refine anyE (done_call (mg := mg) (mb := mb) (r1 := r0) (r2 := r1) (va := .ref a20) ?hh ?hd ?hu ?hG hf20 hpl27' hys27' h0.1 h1.1 ?_)
      case hh => exact hh
      case hd => rw [depth_deeper]; omega
      case hu => rw [units_deeper]; omega
      case hG => exact G.keep F.keep
      intro h28 tk28 a28 kp28 hat28
      have hf20 := hf20.keep kp28
      have K : ∀ b o, b ≠ s.heap.objs.size → hh'.get? b = some o → h28.get? b = some o := fun b o hb e => kp28 b o (K b o hb e)
      have hf21 := hf21.keep kp28
      have hys28 := hys27'.keep kp28
      have hpl28 := hpl27'.at fun o e => kp28 _ o e
      have F := F.keeps kp28
      clear N
      have N := news0 F
      obtain ⟨aa, z0, z1, z2, tt, z4, zs, ea, hta, htt, hrz, _⟩ := form_inv hf21
      cases ea
      ((try (with_reducible show wpAny _ _ _ _ _ _)); (try dsimp only))
      ((repeat' (first | (k_unfold; (try dsimp only)) | (k_end; fail) | ((fail_if_success (with_reducible first | intro _ | refine st_and ?_ | refine st_ex ?_ | refine st_ex1 ?_ | refine st_eq ?_ | refine st_cr ?_ | refine st_td ?_ | refine st_tl ?_ | refine st_tt ?_ | refine st_tz ?_ | refine st_bs ?_ | refine st_ba ?_ | refine st_bp ?_ | refine st_bu ?_ | refine st_bg ?_ | refine st_sn ?_ | refine st_fo ?_ | refine st_al ?_ | refine st_ad ?_ | refine st_el ?_ | refine st_ed ?_ | refine st_cNq ?_ | refine st_cIn ?_ | refine st_cNn ?_)); first | walk1 | (dsimp only; (fail_if_success (with_reducible first | intro _ | refine st_and ?_ | refine st_ex ?_ | refine st_ex1 ?_ | refine st_eq ?_ | refine st_cr ?_ | refine st_td ?_ | refine st_tl ?_ | refine st_tt ?_ | refine st_tz ?_ | refine st_bs ?_ | refine st_ba ?_ | refine st_bp ?_ | refine st_bu ?_ | refine st_bg ?_ | refine st_sn ?_ | refine st_fo ?_ | refine st_al ?_ | refine st_ad ?_ | refine st_el ?_ | refine st_ed ?_ | refine st_cNq ?_ | refine st_cIn ?_ | refine st_cNn ?_)); walk1) | (leave1; walk_say "STEP leave1"; try dsimp only)) | fail "no step")); (try k_sweep); ((try (with_reducible rename Fr _ _ _ _ => F)); (try (with_reducible rename News _ _ _ _ => N))))
      refine ne_rd hat28 (Rd.of_tup trivial htt hrz) (attrs_ok h1.1) (attrs_ok h1.1) (by rw [units_deeper]; omega) ?_
      rw [eqB_self, show (!true) = false from rfl]
      ((repeat' (first | (k_unfold; (try dsimp only)) | (k_end; fail) | ((fail_if_success (with_reducible first | intro _ | refine st_and ?_ | refine st_ex ?_ | refine st_ex1 ?_ | refine st_eq ?_ | refine st_cr ?_ | refine st_td ?_ | refine st_tl ?_ | refine st_tt ?_ | refine st_tz ?_ | refine st_bs ?_ | refine st_ba ?_ | refine st_bp ?_ | refine st_bu ?_ | refine st_bg ?_ | refine st_sn ?_ | refine st_fo ?_ | refine st_al ?_ | refine st_ad ?_ | refine st_el ?_ | refine st_ed ?_ | refine st_cNq ?_ | refine st_cIn ?_ | refine st_cNn ?_)); first | walk1 | (dsimp only; (fail_if_success (with_reducible first | intro _ | refine st_and ?_ | refine st_ex ?_ | refine st_ex1 ?_ | refine st_eq ?_ | refine st_cr ?_ | refine st_td ?_ | refine st_tl ?_ | refine st_tt ?_ | refine st_tz ?_ | refine st_bs ?_ | refine st_ba ?_ | refine st_bp ?_ | refine st_bu ?_ | refine st_bg ?_ | refine st_sn ?_ | refine st_fo ?_ | refine st_al ?_ | refine st_ad ?_ | refine st_el ?_ | refine st_ed ?_ | refine st_cNq ?_ | refine st_cIn ?_ | refine st_cNn ?_)); walk1) | (leave1; walk_say "STEP leave1"; try dsimp only)) | fail "no step")); (try k_sweep); ((try (with_reducible rename Fr _ _ _ _ => F)); (try (with_reducible rename News _ _ _ _ => N))))
      refine ⟨fun a o e => F.keep _ _ (X a o e), ?_⟩
      ((try (with_reducible show wpAny _ _ _ _ _ _)); (try dsimp only))
      k_fold
      refine anyE (own_call (mg := mg) (mb := mb) (r1 := r0) (r2 := r1) (va := .ref a20) (vb := .ref a21) ?hh ?hd ?hu ?hG hf20 hf21 h0.1 h1.1 ?_)
      case hh => exact hh
      case hd => rw [depth_deeper]; omega
      case hu => rw [units_deeper]; omega
      case hG => exact G.keep F.keep
      intro h29 tk29 t29 kp29
      have hys29 := hys28.keep kp29
      have K : ∀ b o, b ≠ s.heap.objs.size → hh'.get? b = some o → h29.get? b = some o := fun b o hb e => kp29 b o (K b o hb e)
      have hpl29 := hpl28.at fun o e => kp29 _ o e
      have F := F.keeps kp29
      clear N
      have N := news0 F
      have hdl : ys25.length = (dueD r0 r1).length := hys29.length
      have hd5 := dueD_len r0 r1
      ((try (with_reducible show wpAny _ _ _ _ _ _)); (try dsimp only))
      ((repeat' (first | (k_unfold; (try dsimp only)) | (k_end; fail) | ((fail_if_success (with_reducible first | intro _ | refine st_and ?_ | refine st_ex ?_ | refine st_ex1 ?_ | refine st_eq ?_ | refine st_cr ?_ | refine st_td ?_ | refine st_tl ?_ | refine st_tt ?_ | refine st_tz ?_ | refine st_bs ?_ | refine st_ba ?_ | refine st_bp ?_ | refine st_bu ?_ | refine st_bg ?_ | refine st_sn ?_ | refine st_fo ?_ | refine st_al ?_ | refine st_ad ?_ | refine st_el ?_ | refine st_ed ?_ | refine st_cNq ?_ | refine st_cIn ?_ | refine st_cNn ?_)); first | walk1 | (dsimp only; (fail_if_success (with_reducible first | intro _ | refine st_and ?_ | refine st_ex ?_ | refine st_ex1 ?_ | refine st_eq ?_ | refine st_cr ?_ | refine st_td ?_ | refine st_tl ?_ | refine st_tt ?_ | refine st_tz ?_ | refine st_bs ?_ | refine st_ba ?_ | refine st_bp ?_ | refine st_bu ?_ | refine st_bg ?_ | refine st_sn ?_ | refine st_fo ?_ | refine st_al ?_ | refine st_ad ?_ | refine st_el ?_ | refine st_ed ?_ | refine st_cNq ?_ | refine st_cIn ?_ | refine st_cNn ?_)); walk1) | (leave1; walk_say "STEP leave1"; try dsimp only)) | fail "no step")); (try k_sweep); ((try (with_reducible rename Fr _ _ _ _ => F)); (try (with_reducible rename News _ _ _ _ => N))))
      refine call_len_list hpl29.isList (by rw [List.size_toArray]; omega) ?_
      ((repeat' (first | (k_unfold; (try dsimp only)) | (k_end; fail) | ((fail_if_success (with_reducible first | intro _ | refine st_and ?_ | refine st_ex ?_ | refine st_ex1 ?_ | refine st_eq ?_ | refine st_cr ?_ | refine st_td ?_ | refine st_tl ?_ | refine st_tt ?_ | refine st_tz ?_ | refine st_bs ?_ | refine st_ba ?_ | refine st_bp ?_ | refine st_bu ?_ | refine st_bg ?_ | refine st_sn ?_ | refine st_fo ?_ | refine st_al ?_ | refine st_ad ?_ | refine st_el ?_ | refine st_ed ?_ | refine st_cNq ?_ | refine st_cIn ?_ | refine st_cNn ?_)); first | walk1 | (dsimp only; (fail_if_success (with_reducible first | intro _ | refine st_and ?_ | refine st_ex ?_ | refine st_ex1 ?_ | refine st_eq ?_ | refine st_cr ?_ | refine st_td ?_ | refine st_tl ?_ | refine st_tt ?_ | refine st_tz ?_ | refine st_bs ?_ | refine st_ba ?_ | refine st_bp ?_ | refine st_bu ?_ | refine st_bg ?_ | refine st_sn ?_ | refine st_fo ?_ | refine st_al ?_ | refine st_ad ?_ | refine st_el ?_ | refine st_ed ?_ | refine st_cNq ?_ | refine st_cIn ?_ | refine st_cNn ?_)); walk1) | (leave1; walk_say "STEP leave1"; try dsimp only)) | fail "no step")); (try k_sweep); ((try (with_reducible rename Fr _ _ _ _ => F)); (try (with_reducible rename News _ _ _ _ => N))))
      refine ne_strB ?_
      cases hw01 : eqB w0 w1 with
      | true =>
        rw [show (!true) = false from rfl]
        ((repeat' (first | (k_unfold; (try dsimp only)) | (k_end; fail) | ((fail_if_success (with_reducible first | intro _ | refine st_and ?_ | refine st_ex ?_ | refine st_ex1 ?_ | refine st_eq ?_ | refine st_cr ?_ | refine st_td ?_ | refine st_tl ?_ | refine st_tt ?_ | refine st_tz ?_ | refine st_bs ?_ | refine st_ba ?_ | refine st_bp ?_ | refine st_bu ?_ | refine st_bg ?_ | refine st_sn ?_ | refine st_fo ?_ | refine st_al ?_ | refine st_ad ?_ | refine st_el ?_ | refine st_ed ?_ | refine st_cNq ?_ | refine st_cIn ?_ | refine st_cNn ?_)); first | walk1 | (dsimp only; (fail_if_success (with_reducible first | intro _ | refine st_and ?_ | refine st_ex ?_ | refine st_ex1 ?_ | refine st_eq ?_ | refine st_cr ?_ | refine st_td ?_ | refine st_tl ?_ | refine st_tt ?_ | refine st_tz ?_ | refine st_bs ?_ | refine st_ba ?_ | refine st_bp ?_ | refine st_bu ?_ | refine st_bg ?_ | refine st_sn ?_ | refine st_fo ?_ | refine st_al ?_ | refine st_ad ?_ | refine st_el ?_ | refine st_ed ?_ | refine st_cNq ?_ | refine st_cIn ?_ | refine st_cNn ?_)); walk1) | (leave1; walk_say "STEP leave1"; try dsimp only)) | fail "no step")); (try k_sweep); ((try (with_reducible rename Fr _ _ _ _ => F)); (try (with_reducible rename News _ _ _ _ => N))))
        have hz : ((if w0 = w1 then 0 else 1) + ((dueD r0 r1).length : Int)) = ((ys25.toArray.size : Int) + if false = true then 1 else 0) := by
          rw [if_pos (eqB_true.mp hw01), List.size_toArray, hdl]; simp <;> omega
        rw [hz]
        refine ne_intB ?_
        ((repeat' (first | (k_unfold; (try dsimp only)) | (k_end; fail) | ((fail_if_success (with_reducible first | intro _ | refine st_and ?_ | refine st_ex ?_ | refine st_ex1 ?_ | refine st_eq ?_ | refine st_cr ?_ | refine st_td ?_ | refine st_tl ?_ | refine st_tt ?_ | refine st_tz ?_ | refine st_bs ?_ | refine st_ba ?_ | refine st_bp ?_ | refine st_bu ?_ | refine st_bg ?_ | refine st_sn ?_ | refine st_fo ?_ | refine st_al ?_ | refine st_ad ?_ | refine st_el ?_ | refine st_ed ?_ | refine st_cNq ?_ | refine st_cIn ?_ | refine st_cNn ?_)); first | walk1 | (dsimp only; (fail_if_success (with_reducible first | intro _ | refine st_and ?_ | refine st_ex ?_ | refine st_ex1 ?_ | refine st_eq ?_ | refine st_cr ?_ | refine st_td ?_ | refine st_tl ?_ | refine st_tt ?_ | refine st_tz ?_ | refine st_bs ?_ | refine st_ba ?_ | refine st_bp ?_ | refine st_bu ?_ | refine st_bg ?_ | refine st_sn ?_ | refine st_fo ?_ | refine st_al ?_ | refine st_ad ?_ | refine st_el ?_ | refine st_ed ?_ | refine st_cNq ?_ | refine st_cIn ?_ | refine st_cNn ?_)); walk1) | (leave1; walk_say "STEP leave1"; try dsimp only)) | fail "no step")); (try k_sweep); ((try (with_reducible rename Fr _ _ _ _ => F)); (try (with_reducible rename News _ _ _ _ => N))))
        exact ⟨_, _, _, rfl, F.ns, ⟨F.keep, rfl, rfl, rfl⟩, fun b o hr e => K b o (fun q => hnRD b q hr) e⟩
      | false =>
        rw [show (!false) = true from rfl]
        ((repeat' (first | (k_unfold; (try dsimp only)) | (k_end; fail) | ((fail_if_success (with_reducible first | intro _ | refine st_and ?_ | refine st_ex ?_ | refine st_ex1 ?_ | refine st_eq ?_ | refine st_cr ?_ | refine st_td ?_ | refine st_tl ?_ | refine st_tt ?_ | refine st_tz ?_ | refine st_bs ?_ | refine st_ba ?_ | refine st_bp ?_ | refine st_bu ?_ | refine st_bg ?_ | refine st_sn ?_ | refine st_fo ?_ | refine st_al ?_ | refine st_ad ?_ | refine st_el ?_ | refine st_ed ?_ | refine st_cNq ?_ | refine st_cIn ?_ | refine st_cNn ?_)); first | walk1 | (dsimp only; (fail_if_success (with_reducible first | intro _ | refine st_and ?_ | refine st_ex ?_ | refine st_ex1 ?_ | refine st_eq ?_ | refine st_cr ?_ | refine st_td ?_ | refine st_tl ?_ | refine st_tt ?_ | refine st_tz ?_ | refine st_bs ?_ | refine st_ba ?_ | refine st_bp ?_ | refine st_bu ?_ | refine st_bg ?_ | refine st_sn ?_ | refine st_fo ?_ | refine st_al ?_ | refine st_ad ?_ | refine st_el ?_ | refine st_ed ?_ | refine st_cNq ?_ | refine st_cIn ?_ | refine st_cNn ?_)); walk1) | (leave1; walk_say "STEP leave1"; try dsimp only)) | fail "no step")); (try k_sweep); ((try (with_reducible rename Fr _ _ _ _ => F)); (try (with_reducible rename News _ _ _ _ => N))))
        have hz : ((if w0 = w1 then 0 else 1) + ((dueD r0 r1).length : Int)) = ((ys25.toArray.size : Int) + if True then 1 else 0) := by
          rw [if_neg (eqB_false.mp hw01), List.size_toArray, hdl]; simp <;> omega
        rw [hz]
        refine ne_intB ?_
        ((repeat' (first | (k_unfold; (try dsimp only)) | (k_end; fail) | ((fail_if_success (with_reducible first | intro _ | refine st_and ?_ | refine st_ex ?_ | refine st_ex1 ?_ | refine st_eq ?_ | refine st_cr ?_ | refine st_td ?_ | refine st_tl ?_ | refine st_tt ?_ | refine st_tz ?_ | refine st_bs ?_ | refine st_ba ?_ | refine st_bp ?_ | refine st_bu ?_ | refine st_bg ?_ | refine st_sn ?_ | refine st_fo ?_ | refine st_al ?_ | refine st_ad ?_ | refine st_el ?_ | refine st_ed ?_ | refine st_cNq ?_ | refine st_cIn ?_ | refine st_cNn ?_)); first | walk1 | (dsimp only; (fail_if_success (with_reducible first | intro _ | refine st_and ?_ | refine st_ex ?_ | refine st_ex1 ?_ | refine st_eq ?_ | refine st_cr ?_ | refine st_td ?_ | refine st_tl ?_ | refine st_tt ?_ | refine st_tz ?_ | refine st_bs ?_ | refine st_ba ?_ | refine st_bp ?_ | refine st_bu ?_ | refine st_bg ?_ | refine st_sn ?_ | refine st_fo ?_ | refine st_al ?_ | refine st_ad ?_ | refine st_el ?_ | refine st_ed ?_ | refine st_cNq ?_ | refine st_cIn ?_ | refine st_cNn ?_)); walk1) | (leave1; walk_say "STEP leave1"; try dsimp only)) | fail "no step")); (try k_sweep); ((try (with_reducible rename Fr _ _ _ _ => F)); (try (with_reducible rename News _ _ _ _ => N))))
        exact ⟨_, _, _, rfl, F.ns, ⟨F.keep, rfl, rfl, rfl⟩, fun b o hr e => K b o (fun q => hnRD b q hr) e⟩
    · ((repeat' (first | (k_unfold; (try dsimp only)) | (k_end; fail) | ((fail_if_success (with_reducible first | intro _ | refine st_and ?_ | refine st_ex ?_ | refine st_ex1 ?_ | refine st_eq ?_ | refine st_cr ?_ | refine st_td ?_ | refine st_tl ?_ | refine st_tt ?_ | refine st_tz ?_ | refine st_bs ?_ | refine st_ba ?_ | refine st_bp ?_ | refine st_bu ?_ | refine st_bg ?_ | refine st_sn ?_ | refine st_fo ?_ | refine st_al ?_ | refine st_ad ?_ | refine st_el ?_ | refine st_ed ?_ | refine st_cNq ?_ | refine st_cIn ?_ | refine st_cNn ?_)); first | walk1 | (dsimp only; (fail_if_success (with_reducible first | intro _ | refine st_and ?_ | refine st_ex ?_ | refine st_ex1 ?_ | refine st_eq ?_ | refine st_cr ?_ | refine st_td ?_ | refine st_tl ?_ | refine st_tt ?_ | refine st_tz ?_ | refine st_bs ?_ | refine st_ba ?_ | refine st_bp ?_ | refine st_bu ?_ | refine st_bg ?_ | refine st_sn ?_ | refine st_fo ?_ | refine st_al ?_ | refine st_ad ?_ | refine st_el ?_ | refine st_ed ?_ | refine st_cNq ?_ | refine st_cIn ?_ | refine st_cNn ?_)); walk1) | (leave1; walk_say "STEP leave1"; try dsimp only)) | fail "no step")); (try k_sweep); ((try (with_reducible rename Fr _ _ _ _ => F)); (try (with_reducible rename News _ _ _ _ => N))))
      refine ⟨fun a o e => F.keep _ _ (X a o e), ?_⟩
      ((try (with_reducible show wpAny _ _ _ _ _ _)); (try dsimp only))
      k_fold
      refine anyE (form_call (mg := mg) (mb := mb) (row := r1) ?hh ?hd ?hu ?hG ?hr ?_)
      case hh => exact hh
      case hd => rw [depth_deeper]; omega
      case hu => rw [units_deeper]; omega
      case hG => exact G.keep F.keep
      case hr => exact (h1).keep F.keep
      intro h20 tk20 a20 kp20 hf20
      have K : ∀ b o, b ≠ s.heap.objs.size → hh'.get? b = some o → h20.get? b = some o := fun b o _ e => kp20 b o e
      have F := F.keeps kp20
      clear N
      have N := news0 F
      ((try (with_reducible show wpAny _ _ _ _ _ _)); (try dsimp only))
      ((repeat' (first | (k_unfold; (try dsimp only)) | (k_end; fail) | ((fail_if_success (with_reducible first | intro _ | refine st_and ?_ | refine st_ex ?_ | refine st_ex1 ?_ | refine st_eq ?_ | refine st_cr ?_ | refine st_td ?_ | refine st_tl ?_ | refine st_tt ?_ | refine st_tz ?_ | refine st_bs ?_ | refine st_ba ?_ | refine st_bp ?_ | refine st_bu ?_ | refine st_bg ?_ | refine st_sn ?_ | refine st_fo ?_ | refine st_al ?_ | refine st_ad ?_ | refine st_el ?_ | refine st_ed ?_ | refine st_cNq ?_ | refine st_cIn ?_ | refine st_cNn ?_)); first | walk1 | (dsimp only; (fail_if_success (with_reducible first | intro _ | refine st_and ?_ | refine st_ex ?_ | refine st_ex1 ?_ | refine st_eq ?_ | refine st_cr ?_ | refine st_td ?_ | refine st_tl ?_ | refine st_tt ?_ | refine st_tz ?_ | refine st_bs ?_ | refine st_ba ?_ | refine st_bp ?_ | refine st_bu ?_ | refine st_bg ?_ | refine st_sn ?_ | refine st_fo ?_ | refine st_al ?_ | refine st_ad ?_ | refine st_el ?_ | refine st_ed ?_ | refine st_cNq ?_ | refine st_cIn ?_ | refine st_cNn ?_)); walk1) | (leave1; walk_say "STEP leave1"; try dsimp only)) | fail "no step")); (try k_sweep); ((try (with_reducible rename Fr _ _ _ _ => F)); (try (with_reducible rename News _ _ _ _ => N))))
      refine ⟨fun a o e => F.keep _ _ (X a o e), ?_⟩
      ((try (with_reducible show wpAny _ _ _ _ _ _)); (try dsimp only))
      k_fold
      refine anyE (form_call (mg := mg) (mb := mb) (row := r0) ?hh ?hd ?hu ?hG ?hr ?_)
      case hh => exact hh
      case hd => rw [depth_deeper]; omega
      case hu => rw [units_deeper]; omega
      case hG => exact G.keep F.keep
      case hr => exact (h0).keep F.keep
      intro h21 tk21 a21 kp21 hf21
      have hf20 := hf20.keep kp21
      have K : ∀ b o, b ≠ s.heap.objs.size → hh'.get? b = some o → h21.get? b = some o := fun b o hb e => kp21 b o (K b o hb e)
      have F := F.keeps kp21
      have hns21 := F.ns
      clear N
      obtain ⟨nl, N, back⟩ := all_news F
      ((try (with_reducible show wpAny _ _ _ _ _ _)); (try dsimp only))
      ((repeat' (first | (k_unfold; (try dsimp only)) | (k_end; fail) | ((fail_if_success (with_reducible first | intro _ | refine st_and ?_ | refine st_ex ?_ | refine st_ex1 ?_ | refine st_eq ?_ | refine st_cr ?_ | refine st_td ?_ | refine st_tl ?_ | refine st_tt ?_ | refine st_tz ?_ | refine st_bs ?_ | refine st_ba ?_ | refine st_bp ?_ | refine st_bu ?_ | refine st_bg ?_ | refine st_sn ?_ | refine st_fo ?_ | refine st_al ?_ | refine st_ad ?_ | refine st_el ?_ | refine st_ed ?_ | refine st_cNq ?_ | refine st_cIn ?_ | refine st_cNn ?_)); first | walk1 | (dsimp only; (fail_if_success (with_reducible first | intro _ | refine st_and ?_ | refine st_ex ?_ | refine st_ex1 ?_ | refine st_eq ?_ | refine st_cr ?_ | refine st_td ?_ | refine st_tl ?_ | refine st_tt ?_ | refine st_tz ?_ | refine st_bs ?_ | refine st_ba ?_ | refine st_bp ?_ | refine st_bu ?_ | refine st_bg ?_ | refine st_sn ?_ | refine st_fo ?_ | refine st_al ?_ | refine st_ad ?_ | refine st_el ?_ | refine st_ed ?_ | refine st_cNq ?_ | refine st_cIn ?_ | refine st_cNn ?_)); walk1) | (leave1; walk_say "STEP leave1"; try dsimp only)) | fail "no step")); (try k_sweep); ((try (with_reducible rename Fr _ _ _ _ => F)); (try (with_reducible rename News _ _ _ _ => N))))
      rename_i D' h22 hl22
      have htD : IsTup h22 D' #[.ref a20, .ref a21] := tupN N (List.Mem.head _)
      have bk := back F N (fun p hp => List.Mem.tail _ hp)
      have T22 := tq_frame hns21 bk
      ((try (with_reducible show wpAny _ _ _ _ _ _)); (try dsimp only))
      refine anyE (show wpAny _ _ (unpackItems (.ref D') 2 none) _ F0 _ from wpAny_unpackItems_tuple (items := #[.ref a20, .ref a21]) hh htD fun h23 he => ?_)
      have K : ∀ b o, b ≠ s.heap.objs.size → hh'.get? b = some o → h22.get? b = some o := fun b o hb e => bk b o hb (K b o hb e)
      have kp23 : Kp h22 h23 := fun b o e => he b o (Nat.ne_of_lt (Heap.lt_size e)) e
      have hf20 := (hf20.tq T22).keep kp23
      have K : ∀ b o, b ≠ s.heap.objs.size → hh'.get? b = some o → h23.get? b = some o := fun b o hb e => kp23 b o (K b o hb e)
      have hf21 := (hf21.tq T22).keep kp23
      have F := F.keeps kp23
      have hns23 := F.ns
      clear N back
      obtain ⟨nl, N, back⟩ := all_news F
      ((try (with_reducible show wpAny _ _ _ _ _ _)); (try dsimp only))
      ((repeat' (first | (k_unfold; (try dsimp only)) | (k_end; fail) | ((fail_if_success (with_reducible first | intro _ | refine st_and ?_ | refine st_ex ?_ | refine st_ex1 ?_ | refine st_eq ?_ | refine st_cr ?_ | refine st_td ?_ | refine st_tl ?_ | refine st_tt ?_ | refine st_tz ?_ | refine st_bs ?_ | refine st_ba ?_ | refine st_bp ?_ | refine st_bu ?_ | refine st_bg ?_ | refine st_sn ?_ | refine st_fo ?_ | refine st_al ?_ | refine st_ad ?_ | refine st_el ?_ | refine st_ed ?_ | refine st_cNq ?_ | refine st_cIn ?_ | refine st_cNn ?_)); first | walk1 | (dsimp only; (fail_if_success (with_reducible first | intro _ | refine st_and ?_ | refine st_ex ?_ | refine st_ex1 ?_ | refine st_eq ?_ | refine st_cr ?_ | refine st_td ?_ | refine st_tl ?_ | refine st_tt ?_ | refine st_tz ?_ | refine st_bs ?_ | refine st_ba ?_ | refine st_bp ?_ | refine st_bu ?_ | refine st_bg ?_ | refine st_sn ?_ | refine st_fo ?_ | refine st_al ?_ | refine st_ad ?_ | refine st_el ?_ | refine st_ed ?_ | refine st_cNq ?_ | refine st_cIn ?_ | refine st_cNn ?_)); walk1) | (leave1; walk_say "STEP leave1"; try dsimp only)) | fail "no step")); (try k_sweep); ((try (with_reducible rename Fr _ _ _ _ => F)); (try (with_reducible rename News _ _ _ _ => N))))
      have bk24 := back F N (fun p hp => hp)
      have T24 := tq_frame hns23 bk24
      have K := fun b o hb e => bk24 b o hb (K b o hb e)
      have hf20 := hf20.tq T24
      have hf21 := hf21.tq T24
      clear T24 back bk24
      refine ⟨fun a o e => F.keep _ _ (X a o e), ?_⟩
      ((try (with_reducible show wpAny _ _ _ _ _ _)); (try dsimp only))
      k_fold
      refine anyE (due_call (mg := mg) (mb := mb) (r1 := r1) (r2 := r0) ?hh ?hd ?hu ?hG ?hr1 ?hr2 ?_)
      case hh => exact hh
      case hd => rw [depth_deeper]; omega
      case hu => rw [units_deeper]; omega
      case hG => exact G.keep F.keep
      case hr1 => exact h1.keep F.keep
      case hr2 => exact h0.keep F.keep
      intro h25 tk25 D25 ys25 kp25 hD25 hpl25 hys25
      have hD0 : s.heap.get? D25 = none := by
        cases e : s.heap.get? D25 with
        | none => rfl
        | some o => have e' := F.keep _ _ e; rw [hD25] at e'; cases e'
      have hf20 := hf20.keep kp25
      have K : ∀ b o, b ≠ s.heap.objs.size → hh'.get? b = some o → h25.get? b = some o := fun b o hb e => kp25 b o (K b o hb e)
      have hf21 := hf21.keep kp25
      have F := F.keeps kp25
      have hns25 := F.ns
      clear N
      obtain ⟨nl, N, back⟩ := all_news F
      ((try (with_reducible show wpAny _ _ _ _ _ _)); (try dsimp only))
      ((repeat' (first | (k_unfold; (try dsimp only)) | (k_end; fail) | ((fail_if_success (with_reducible first | intro _ | refine st_and ?_ | refine st_ex ?_ | refine st_ex1 ?_ | refine st_eq ?_ | refine st_cr ?_ | refine st_td ?_ | refine st_tl ?_ | refine st_tt ?_ | refine st_tz ?_ | refine st_bs ?_ | refine st_ba ?_ | refine st_bp ?_ | refine st_bu ?_ | refine st_bg ?_ | refine st_sn ?_ | refine st_fo ?_ | refine st_al ?_ | refine st_ad ?_ | refine st_el ?_ | refine st_ed ?_ | refine st_cNq ?_ | refine st_cIn ?_ | refine st_cNn ?_)); first | walk1 | (dsimp only; (fail_if_success (with_reducible first | intro _ | refine st_and ?_ | refine st_ex ?_ | refine st_ex1 ?_ | refine st_eq ?_ | refine st_cr ?_ | refine st_td ?_ | refine st_tl ?_ | refine st_tt ?_ | refine st_tz ?_ | refine st_bs ?_ | refine st_ba ?_ | refine st_bp ?_ | refine st_bu ?_ | refine st_bg ?_ | refine st_sn ?_ | refine st_fo ?_ | refine st_al ?_ | refine st_ad ?_ | refine st_el ?_ | refine st_ed ?_ | refine st_cNq ?_ | refine st_cIn ?_ | refine st_cNn ?_)); walk1) | (leave1; walk_say "STEP leave1"; try dsimp only)) | fail "no step")); (try k_sweep); ((try (with_reducible rename Fr _ _ _ _ => F)); (try (with_reducible rename News _ _ _ _ => N))))
      have bk26 := back F N (fun p hp => hp)
      have T26 := tq_frame hns25 bk26
      have K := fun b o hb e => bk26 b o hb (K b o hb e)
      have hf20 := hf20.tq T26
      have hf21 := hf21.tq T26
      have hys26 := hys25.tq T26
      have hDL := pl_ne_ns hns25 hpl25
      have hpl26 := hpl25.at fun o e => bk26 _ o hDL e
      clear T26 back bk26
      refine ⟨fun a o e => F.keep _ _ (X a o e), ?_⟩
      ((try (with_reducible show wpAny _ _ _ _ _ _)); (try dsimp only))
      k_fold
      refine anyE (unlike_call (mg := mg) (mb := mb) (r1 := r1) (r2 := r0) (va := .ref a20) (vb := .ref a21) ?hh ?hd ?hu ?hG hf20 hf21 h1.1 h0.1 ?_)
      case hh => exact hh
      case hd => rw [depth_deeper]; omega
      case hu => rw [units_deeper]; omega
      case hG => exact G.keep F.keep
      intro h27 tk27 D27 ys27 kp27 hD27 hpl27 hys27
      have hf20 := hf20.keep kp27
      have K : ∀ b o, b ≠ s.heap.objs.size → hh'.get? b = some o → h27.get? b = some o := fun b o hb e => kp27 b o (K b o hb e)
      have hf21 := hf21.keep kp27
      have hys27' := hys26.keep kp27
      have hpl27' := hpl26.at fun o e => kp27 _ o e
      have F := F.keeps kp27
      clear N
      have N := news0 F
      ((try (with_reducible show wpAny _ _ _ _ _ _)); (try dsimp only))
      ((repeat' (first | (k_unfold; (try dsimp only)) | (k_end; fail) | ((fail_if_success (with_reducible first | intro _ | refine st_and ?_ | refine st_ex ?_ | refine st_ex1 ?_ | refine st_eq ?_ | refine st_cr ?_ | refine st_td ?_ | refine st_tl ?_ | refine st_tt ?_ | refine st_tz ?_ | refine st_bs ?_ | refine st_ba ?_ | refine st_bp ?_ | refine st_bu ?_ | refine st_bg ?_ | refine st_sn ?_ | refine st_fo ?_ | refine st_al ?_ | refine st_ad ?_ | refine st_el ?_ | refine st_ed ?_ | refine st_cNq ?_ | refine st_cIn ?_ | refine st_cNn ?_)); first | walk1 | (dsimp only; (fail_if_success (with_reducible first | intro _ | refine st_and ?_ | refine st_ex ?_ | refine st_ex1 ?_ | refine st_eq ?_ | refine st_cr ?_ | refine st_td ?_ | refine st_tl ?_ | refine st_tt ?_ | refine st_tz ?_ | refine st_bs ?_ | refine st_ba ?_ | refine st_bp ?_ | refine st_bu ?_ | refine st_bg ?_ | refine st_sn ?_ | refine st_fo ?_ | refine st_al ?_ | refine st_ad ?_ | refine st_el ?_ | refine st_ed ?_ | refine st_cNq ?_ | refine st_cIn ?_ | refine st_cNn ?_)); walk1) | (leave1; walk_say "STEP leave1"; try dsimp only)) | fail "no step")); (try k_sweep); ((try (with_reducible rename Fr _ _ _ _ => F)); (try (with_reducible rename News _ _ _ _ => N))))
      refine ne_lists hpl27.isList hpl27'.isList hys27 hys27' (dueD_ok h0.1) (dueD_ok h0.1) (by rw [units_deeper]; omega) ?_
      rw [eqB_self, show (!true) = false from rfl]
      ((repeat' (first | (k_unfold; (try dsimp only)) | (k_end; fail) | ((fail_if_success (with_reducible first | intro _ | refine st_and ?_ | refine st_ex ?_ | refine st_ex1 ?_ | refine st_eq ?_ | refine st_cr ?_ | refine st_td ?_ | refine st_tl ?_ | refine st_tt ?_ | refine st_tz ?_ | refine st_bs ?_ | refine st_ba ?_ | refine st_bp ?_ | refine st_bu ?_ | refine st_bg ?_ | refine st_sn ?_ | refine st_fo ?_ | refine st_al ?_ | refine st_ad ?_ | refine st_el ?_ | refine st_ed ?_ | refine st_cNq ?_ | refine st_cIn ?_ | refine st_cNn ?_)); first | walk1 | (dsimp only; (fail_if_success (with_reducible first | intro _ | refine st_and ?_ | refine st_ex ?_ | refine st_ex1 ?_ | refine st_eq ?_ | refine st_cr ?_ | refine st_td ?_ | refine st_tl ?_ | refine st_tt ?_ | refine st_tz ?_ | refine st_bs ?_ | refine st_ba ?_ | refine st_bp ?_ | refine st_bu ?_ | refine st_bg ?_ | refine st_sn ?_ | refine st_fo ?_ | refine st_al ?_ | refine st_ad ?_ | refine st_el ?_ | refine st_ed ?_ | refine st_cNq ?_ | refine st_cIn ?_ | refine st_cNn ?_)); walk1) | (leave1; walk_say "STEP leave1"; try dsimp only)) | fail "no step")); (try k_sweep); ((try (with_reducible rename Fr _ _ _ _ => F)); (try (with_reducible rename News _ _ _ _ => N))))
      refine ⟨fun a o e => F.keep _ _ (X a o e), ?_⟩
      ((try (with_reducible show wpAny _ _ _ _ _ _)); (try dsimp only))
      k_fold
      refine anyE (done_call (mg := mg) (mb := mb) (r1 := r1) (r2 := r0) (va := .ref a20) ?hh ?hd ?hu ?hG hf20 hpl27' hys27' h1.1 h0.1 ?_)
      case hh => exact hh
      case hd => rw [depth_deeper]; omega
      case hu => rw [units_deeper]; omega
      case hG => exact G.keep F.keep
      intro h28 tk28 a28 kp28 hat28
      have hf20 := hf20.keep kp28
      have K : ∀ b o, b ≠ s.heap.objs.size → hh'.get? b = some o → h28.get? b = some o := fun b o hb e => kp28 b o (K b o hb e)
      have hf21 := hf21.keep kp28
      have hys28 := hys27'.keep kp28
      have hpl28 := hpl27'.at fun o e => kp28 _ o e
      have F := F.keeps kp28
      clear N
      have N := news0 F
      obtain ⟨aa, z0, z1, z2, tt, z4, zs, ea, hta, htt, hrz, _⟩ := form_inv hf21
      cases ea
      ((try (with_reducible show wpAny _ _ _ _ _ _)); (try dsimp only))
      ((repeat' (first | (k_unfold; (try dsimp only)) | (k_end; fail) | ((fail_if_success (with_reducible first | intro _ | refine st_and ?_ | refine st_ex ?_ | refine st_ex1 ?_ | refine st_eq ?_ | refine st_cr ?_ | refine st_td ?_ | refine st_tl ?_ | refine st_tt ?_ | refine st_tz ?_ | refine st_bs ?_ | refine st_ba ?_ | refine st_bp ?_ | refine st_bu ?_ | refine st_bg ?_ | refine st_sn ?_ | refine st_fo ?_ | refine st_al ?_ | refine st_ad ?_ | refine st_el ?_ | refine st_ed ?_ | refine st_cNq ?_ | refine st_cIn ?_ | refine st_cNn ?_)); first | walk1 | (dsimp only; (fail_if_success (with_reducible first | intro _ | refine st_and ?_ | refine st_ex ?_ | refine st_ex1 ?_ | refine st_eq ?_ | refine st_cr ?_ | refine st_td ?_ | refine st_tl ?_ | refine st_tt ?_ | refine st_tz ?_ | refine st_bs ?_ | refine st_ba ?_ | refine st_bp ?_ | refine st_bu ?_ | refine st_bg ?_ | refine st_sn ?_ | refine st_fo ?_ | refine st_al ?_ | refine st_ad ?_ | refine st_el ?_ | refine st_ed ?_ | refine st_cNq ?_ | refine st_cIn ?_ | refine st_cNn ?_)); walk1) | (leave1; walk_say "STEP leave1"; try dsimp only)) | fail "no step")); (try k_sweep); ((try (with_reducible rename Fr _ _ _ _ => F)); (try (with_reducible rename News _ _ _ _ => N))))
      refine ne_rd hat28 (Rd.of_tup trivial htt hrz) (attrs_ok h0.1) (attrs_ok h0.1) (by rw [units_deeper]; omega) ?_
      rw [eqB_self, show (!true) = false from rfl]
      ((repeat' (first | (k_unfold; (try dsimp only)) | (k_end; fail) | ((fail_if_success (with_reducible first | intro _ | refine st_and ?_ | refine st_ex ?_ | refine st_ex1 ?_ | refine st_eq ?_ | refine st_cr ?_ | refine st_td ?_ | refine st_tl ?_ | refine st_tt ?_ | refine st_tz ?_ | refine st_bs ?_ | refine st_ba ?_ | refine st_bp ?_ | refine st_bu ?_ | refine st_bg ?_ | refine st_sn ?_ | refine st_fo ?_ | refine st_al ?_ | refine st_ad ?_ | refine st_el ?_ | refine st_ed ?_ | refine st_cNq ?_ | refine st_cIn ?_ | refine st_cNn ?_)); first | walk1 | (dsimp only; (fail_if_success (with_reducible first | intro _ | refine st_and ?_ | refine st_ex ?_ | refine st_ex1 ?_ | refine st_eq ?_ | refine st_cr ?_ | refine st_td ?_ | refine st_tl ?_ | refine st_tt ?_ | refine st_tz ?_ | refine st_bs ?_ | refine st_ba ?_ | refine st_bp ?_ | refine st_bu ?_ | refine st_bg ?_ | refine st_sn ?_ | refine st_fo ?_ | refine st_al ?_ | refine st_ad ?_ | refine st_el ?_ | refine st_ed ?_ | refine st_cNq ?_ | refine st_cIn ?_ | refine st_cNn ?_)); walk1) | (leave1; walk_say "STEP leave1"; try dsimp only)) | fail "no step")); (try k_sweep); ((try (with_reducible rename Fr _ _ _ _ => F)); (try (with_reducible rename News _ _ _ _ => N))))
      refine ⟨fun a o e => F.keep _ _ (X a o e), ?_⟩
      ((try (with_reducible show wpAny _ _ _ _ _ _)); (try dsimp only))
      k_fold
      refine anyE (own_call (mg := mg) (mb := mb) (r1 := r1) (r2 := r0) (va := .ref a20) (vb := .ref a21) ?hh ?hd ?hu ?hG hf20 hf21 h1.1 h0.1 ?_)
      case hh => exact hh
      case hd => rw [depth_deeper]; omega
      case hu => rw [units_deeper]; omega
      case hG => exact G.keep F.keep
      intro h29 tk29 t29 kp29
      have hys29 := hys28.keep kp29
      have K : ∀ b o, b ≠ s.heap.objs.size → hh'.get? b = some o → h29.get? b = some o := fun b o hb e => kp29 b o (K b o hb e)
      have hpl29 := hpl28.at fun o e => kp29 _ o e
      have F := F.keeps kp29
      clear N
      have N := news0 F
      have hdl : ys25.length = (dueD r1 r0).length := hys29.length
      have hd5 := dueD_len r1 r0
      ((try (with_reducible show wpAny _ _ _ _ _ _)); (try dsimp only))
      ((repeat' (first | (k_unfold; (try dsimp only)) | (k_end; fail) | ((fail_if_success (with_reducible first | intro _ | refine st_and ?_ | refine st_ex ?_ | refine st_ex1 ?_ | refine st_eq ?_ | refine st_cr ?_ | refine st_td ?_ | refine st_tl ?_ | refine st_tt ?_ | refine st_tz ?_ | refine st_bs ?_ | refine st_ba ?_ | refine st_bp ?_ | refine st_bu ?_ | refine st_bg ?_ | refine st_sn ?_ | refine st_fo ?_ | refine st_al ?_ | refine st_ad ?_ | refine st_el ?_ | refine st_ed ?_ | refine st_cNq ?_ | refine st_cIn ?_ | refine st_cNn ?_)); first | walk1 | (dsimp only; (fail_if_success (with_reducible first | intro _ | refine st_and ?_ | refine st_ex ?_ | refine st_ex1 ?_ | refine st_eq ?_ | refine st_cr ?_ | refine st_td ?_ | refine st_tl ?_ | refine st_tt ?_ | refine st_tz ?_ | refine st_bs ?_ | refine st_ba ?_ | refine st_bp ?_ | refine st_bu ?_ | refine st_bg ?_ | refine st_sn ?_ | refine st_fo ?_ | refine st_al ?_ | refine st_ad ?_ | refine st_el ?_ | refine st_ed ?_ | refine st_cNq ?_ | refine st_cIn ?_ | refine st_cNn ?_)); walk1) | (leave1; walk_say "STEP leave1"; try dsimp only)) | fail "no step")); (try k_sweep); ((try (with_reducible rename Fr _ _ _ _ => F)); (try (with_reducible rename News _ _ _ _ => N))))
      refine call_len_list hpl29.isList (by rw [List.size_toArray]; omega) ?_
      ((repeat' (first | (k_unfold; (try dsimp only)) | (k_end; fail) | ((fail_if_success (with_reducible first | intro _ | refine st_and ?_ | refine st_ex ?_ | refine st_ex1 ?_ | refine st_eq ?_ | refine st_cr ?_ | refine st_td ?_ | refine st_tl ?_ | refine st_tt ?_ | refine st_tz ?_ | refine st_bs ?_ | refine st_ba ?_ | refine st_bp ?_ | refine st_bu ?_ | refine st_bg ?_ | refine st_sn ?_ | refine st_fo ?_ | refine st_al ?_ | refine st_ad ?_ | refine st_el ?_ | refine st_ed ?_ | refine st_cNq ?_ | refine st_cIn ?_ | refine st_cNn ?_)); first | walk1 | (dsimp only; (fail_if_success (with_reducible first | intro _ | refine st_and ?_ | refine st_ex ?_ | refine st_ex1 ?_ | refine st_eq ?_ | refine st_cr ?_ | refine st_td ?_ | refine st_tl ?_ | refine st_tt ?_ | refine st_tz ?_ | refine st_bs ?_ | refine st_ba ?_ | refine st_bp ?_ | refine st_bu ?_ | refine st_bg ?_ | refine st_sn ?_ | refine st_fo ?_ | refine st_al ?_ | refine st_ad ?_ | refine st_el ?_ | refine st_ed ?_ | refine st_cNq ?_ | refine st_cIn ?_ | refine st_cNn ?_)); walk1) | (leave1; walk_say "STEP leave1"; try dsimp only)) | fail "no step")); (try k_sweep); ((try (with_reducible rename Fr _ _ _ _ => F)); (try (with_reducible rename News _ _ _ _ => N))))
      refine ne_strB ?_
      cases hw01 : eqB w1 w0 with
      | true =>
        rw [show (!true) = false from rfl]
        ((repeat' (first | (k_unfold; (try dsimp only)) | (k_end; fail) | ((fail_if_success (with_reducible first | intro _ | refine st_and ?_ | refine st_ex ?_ | refine st_ex1 ?_ | refine st_eq ?_ | refine st_cr ?_ | refine st_td ?_ | refine st_tl ?_ | refine st_tt ?_ | refine st_tz ?_ | refine st_bs ?_ | refine st_ba ?_ | refine st_bp ?_ | refine st_bu ?_ | refine st_bg ?_ | refine st_sn ?_ | refine st_fo ?_ | refine st_al ?_ | refine st_ad ?_ | refine st_el ?_ | refine st_ed ?_ | refine st_cNq ?_ | refine st_cIn ?_ | refine st_cNn ?_)); first | walk1 | (dsimp only; (fail_if_success (with_reducible first | intro _ | refine st_and ?_ | refine st_ex ?_ | refine st_ex1 ?_ | refine st_eq ?_ | refine st_cr ?_ | refine st_td ?_ | refine st_tl ?_ | refine st_tt ?_ | refine st_tz ?_ | refine st_bs ?_ | refine st_ba ?_ | refine st_bp ?_ | refine st_bu ?_ | refine st_bg ?_ | refine st_sn ?_ | refine st_fo ?_ | refine st_al ?_ | refine st_ad ?_ | refine st_el ?_ | refine st_ed ?_ | refine st_cNq ?_ | refine st_cIn ?_ | refine st_cNn ?_)); walk1) | (leave1; walk_say "STEP leave1"; try dsimp only)) | fail "no step")); (try k_sweep); ((try (with_reducible rename Fr _ _ _ _ => F)); (try (with_reducible rename News _ _ _ _ => N))))
        have hz : ((if w1 = w0 then 0 else 1) + ((dueD r1 r0).length : Int)) = ((ys25.toArray.size : Int) + if false = true then 1 else 0) := by
          rw [if_pos (eqB_true.mp hw01), List.size_toArray, hdl]; simp <;> omega
        rw [hz]
        refine ne_intB ?_
        ((repeat' (first | (k_unfold; (try dsimp only)) | (k_end; fail) | ((fail_if_success (with_reducible first | intro _ | refine st_and ?_ | refine st_ex ?_ | refine st_ex1 ?_ | refine st_eq ?_ | refine st_cr ?_ | refine st_td ?_ | refine st_tl ?_ | refine st_tt ?_ | refine st_tz ?_ | refine st_bs ?_ | refine st_ba ?_ | refine st_bp ?_ | refine st_bu ?_ | refine st_bg ?_ | refine st_sn ?_ | refine st_fo ?_ | refine st_al ?_ | refine st_ad ?_ | refine st_el ?_ | refine st_ed ?_ | refine st_cNq ?_ | refine st_cIn ?_ | refine st_cNn ?_)); first | walk1 | (dsimp only; (fail_if_success (with_reducible first | intro _ | refine st_and ?_ | refine st_ex ?_ | refine st_ex1 ?_ | refine st_eq ?_ | refine st_cr ?_ | refine st_td ?_ | refine st_tl ?_ | refine st_tt ?_ | refine st_tz ?_ | refine st_bs ?_ | refine st_ba ?_ | refine st_bp ?_ | refine st_bu ?_ | refine st_bg ?_ | refine st_sn ?_ | refine st_fo ?_ | refine st_al ?_ | refine st_ad ?_ | refine st_el ?_ | refine st_ed ?_ | refine st_cNq ?_ | refine st_cIn ?_ | refine st_cNn ?_)); walk1) | (leave1; walk_say "STEP leave1"; try dsimp only)) | fail "no step")); (try k_sweep); ((try (with_reducible rename Fr _ _ _ _ => F)); (try (with_reducible rename News _ _ _ _ => N))))
        exact ⟨_, _, _, rfl, F.ns, ⟨F.keep, rfl, rfl, rfl⟩, fun b o hr e => K b o (fun q => hnRD b q hr) e⟩
      | false =>
        rw [show (!false) = true from rfl]
        ((repeat' (first | (k_unfold; (try dsimp only)) | (k_end; fail) | ((fail_if_success (with_reducible first | intro _ | refine st_and ?_ | refine st_ex ?_ | refine st_ex1 ?_ | refine st_eq ?_ | refine st_cr ?_ | refine st_td ?_ | refine st_tl ?_ | refine st_tt ?_ | refine st_tz ?_ | refine st_bs ?_ | refine st_ba ?_ | refine st_bp ?_ | refine st_bu ?_ | refine st_bg ?_ | refine st_sn ?_ | refine st_fo ?_ | refine st_al ?_ | refine st_ad ?_ | refine st_el ?_ | refine st_ed ?_ | refine st_cNq ?_ | refine st_cIn ?_ | refine st_cNn ?_)); first | walk1 | (dsimp only; (fail_if_success (with_reducible first | intro _ | refine st_and ?_ | refine st_ex ?_ | refine st_ex1 ?_ | refine st_eq ?_ | refine st_cr ?_ | refine st_td ?_ | refine st_tl ?_ | refine st_tt ?_ | refine st_tz ?_ | refine st_bs ?_ | refine st_ba ?_ | refine st_bp ?_ | refine st_bu ?_ | refine st_bg ?_ | refine st_sn ?_ | refine st_fo ?_ | refine st_al ?_ | refine st_ad ?_ | refine st_el ?_ | refine st_ed ?_ | refine st_cNq ?_ | refine st_cIn ?_ | refine st_cNn ?_)); walk1) | (leave1; walk_say "STEP leave1"; try dsimp only)) | fail "no step")); (try k_sweep); ((try (with_reducible rename Fr _ _ _ _ => F)); (try (with_reducible rename News _ _ _ _ => N))))
        have hz : ((if w1 = w0 then 0 else 1) + ((dueD r1 r0).length : Int)) = ((ys25.toArray.size : Int) + if True then 1 else 0) := by
          rw [if_neg (eqB_false.mp hw01), List.size_toArray, hdl]; simp <;> omega
        rw [hz]
        refine ne_intB ?_
        ((repeat' (first | (k_unfold; (try dsimp only)) | (k_end; fail) | ((fail_if_success (with_reducible first | intro _ | refine st_and ?_ | refine st_ex ?_ | refine st_ex1 ?_ | refine st_eq ?_ | refine st_cr ?_ | refine st_td ?_ | refine st_tl ?_ | refine st_tt ?_ | refine st_tz ?_ | refine st_bs ?_ | refine st_ba ?_ | refine st_bp ?_ | refine st_bu ?_ | refine st_bg ?_ | refine st_sn ?_ | refine st_fo ?_ | refine st_al ?_ | refine st_ad ?_ | refine st_el ?_ | refine st_ed ?_ | refine st_cNq ?_ | refine st_cIn ?_ | refine st_cNn ?_)); first | walk1 | (dsimp only; (fail_if_success (with_reducible first | intro _ | refine st_and ?_ | refine st_ex ?_ | refine st_ex1 ?_ | refine st_eq ?_ | refine st_cr ?_ | refine st_td ?_ | refine st_tl ?_ | refine st_tt ?_ | refine st_tz ?_ | refine st_bs ?_ | refine st_ba ?_ | refine st_bp ?_ | refine st_bu ?_ | refine st_bg ?_ | refine st_sn ?_ | refine st_fo ?_ | refine st_al ?_ | refine st_ad ?_ | refine st_el ?_ | refine st_ed ?_ | refine st_cNq ?_ | refine st_cIn ?_ | refine st_cNn ?_)); walk1) | (leave1; walk_say "STEP leave1"; try dsimp only)) | fail "no step")); (try k_sweep); ((try (with_reducible rename Fr _ _ _ _ => F)); (try (with_reducible rename News _ _ _ _ => N))))
        exact ⟨_, _, _, rfl, F.ns, ⟨F.keep, rfl, rfl, rfl⟩, fun b o hr e => K b o (fun q => hnRD b q hr) e⟩
  · intro h15 tk15 m15 hns15 J15
    have F : Fr s.heap s.heap.objs.size h15 _ := ⟨hns15, J15.1, F.above⟩
    clear N
    have N := news0 F
    ((try (with_reducible show wpAny _ _ _ _ _ _)); (try dsimp only))
    ((repeat' (first | (k_unfold; (try dsimp only)) | (k_end; fail) | ((fail_if_success (with_reducible first | intro _ | refine st_and ?_ | refine st_ex ?_ | refine st_ex1 ?_ | refine st_eq ?_ | refine st_cr ?_ | refine st_td ?_ | refine st_tl ?_ | refine st_tt ?_ | refine st_tz ?_ | refine st_bs ?_ | refine st_ba ?_ | refine st_bp ?_ | refine st_bu ?_ | refine st_bg ?_ | refine st_sn ?_ | refine st_fo ?_ | refine st_al ?_ | refine st_ad ?_ | refine st_el ?_ | refine st_ed ?_ | refine st_cNq ?_ | refine st_cIn ?_ | refine st_cNn ?_)); first | walk1 | (dsimp only; (fail_if_success (with_reducible first | intro _ | refine st_and ?_ | refine st_ex ?_ | refine st_ex1 ?_ | refine st_eq ?_ | refine st_cr ?_ | refine st_td ?_ | refine st_tl ?_ | refine st_tt ?_ | refine st_tz ?_ | refine st_bs ?_ | refine st_ba ?_ | refine st_bp ?_ | refine st_bu ?_ | refine st_bg ?_ | refine st_sn ?_ | refine st_fo ?_ | refine st_al ?_ | refine st_ad ?_ | refine st_el ?_ | refine st_ed ?_ | refine st_cNq ?_ | refine st_cIn ?_ | refine st_cNn ?_)); walk1) | (leave1; walk_say "STEP leave1"; try dsimp only)) | fail "no step")); (try k_sweep); ((try (with_reducible rename Fr _ _ _ _ => F)); (try (with_reducible rename News _ _ _ _ => N))))
    exact hQ _ _ J15.1
end
def KpB (src : Addr) (h h' : Heap) : Prop := ∀ b o, b ≠ src → h.get? b = some o → h'.get? b = some o
theorem KpB.trans {src : Addr} {h h' h'' : Heap} (a : KpB src h h') (b : KpB src h' h'') : KpB src h h'' := fun x o hx e => b x o hx (a x o hx e)
theorem KpB.of_kp {src : Addr} {h h' : Heap} (k : Kp h h') : KpB src h h' := fun x o _ e => k x o e
def SrcL (h : Heap) (src : Addr) : Prop := ∃ a b t u n, 0 ≤ a ∧ 0 ≤ b ∧ b < 2147483647 ∧ h.get? src = some (W.listOf #[.int a t, .int b u] n)
theorem SrcL.keep {h h' : Heap} {src : Addr} (x : SrcL h src) (k : Kp h h') : SrcL h' src :=
  let ⟨a, b, t, u, n, h1, h2, h3, e⟩ := x; ⟨a, b, t, u, n, h1, h2, h3, k _ _ e⟩
def GS (w : World) (mg mb : Str → Option Value) (src : Addr) (h : Heap) : Prop := ∃ hb, G0 w mg mb hb ∧ Kp hb h ∧ hb.get? src = none
theorem GS.keep {w : World} {mg mb : Str → Option Value} {src : Addr} {h h' : Heap} (x : GS w mg mb src h) (k : KpB src h h') : GS w mg mb src h' :=
  let ⟨hb, G, kp, e⟩ := x; ⟨hb, G, fun b o q => k b o (fun z => by subst z; rw [e] at q; cases q) (kp b o q), e⟩
theorem GS.g0 {w : World} {mg mb : Str → Option Value} {src : Addr} {h : Heap} (x : GS w mg mb src h) : G0 w mg mb h :=
  let ⟨hb, G, kp, e⟩ := x; G.keep kp
theorem heap_hide (h : Heap) (src : Addr) : ∃ h₀ : Heap, h₀.get? src = none ∧ h₀.objs.size = h.objs.size ∧ (∀ b, b ≠ src → h₀.get? b = h.get? b) := by
  refine ⟨h.update src (fun o => { o with data := .freed }), ?_, Heap.size_update .., fun b hb => Heap.get?_update_ne _ _ _ _ hb⟩
  cases h with
  | mk objs life =>
    simp only [Heap.update, Heap.get?, Array.getElem?_modify]
    cases objs[src]? <;> simp
theorem GS.hide {w : World} {mg mb : Str → Option Value} {src : Addr} {h : Heap} (x : GS w mg mb src h) :
    ∃ h₀ : Heap, G0 w mg mb h₀ ∧ h₀.get? src = none ∧ h₀.objs.size = h.objs.size ∧ (∀ b, b ≠ src → h₀.get? b = h.get? b) := by
  obtain ⟨hb, G, kp, e⟩ := x
  obtain ⟨h₀, h1, h2, h3⟩ := heap_hide h src
  refine ⟨h₀, G.keep fun b o q => ?_, h1, h2, h3⟩
  have hne : b ≠ src := fun z => by subst z; rw [e] at q; cases q
  rw [h3 b hne]; exact kp b o q
theorem fr_hide {h h₀ h₁ : Heap} {L src : Addr} {m : Str → Option Value} (F : Fr h L h₁ m) (h0 : h₀.get? src = none) (hs : h₀.objs.size = h.objs.size) (k : ∀ b, b ≠ src → h₀.get? b = h.get? b) : Fr h₀ L h₁ m :=
  ⟨F.ns, fun b o e => F.keep b o (by rw [← k b (fun z => by subst z; rw [h0] at e; cases e)]; exact e), by rw [hs]; exact F.above⟩
theorem kpb_of {h h₀ h' : Heap} {src : Addr} (k : ∀ b, b ≠ src → h₀.get? b = h.get? b) (kp : Kp h₀ h') : KpB src h h' := fun b o hb e => kp b o (by rw [k b hb]; exact e)
theorem src_ne_ns {h : Heap} {L src : Addr} {m : Str → Option Value} {vs : Array Value} {n : Nat} (hn : h.Ns L m) (e : h.get? src = some (W.listOf vs n)) : src ≠ L := by
  rintro rfl
  exact ns_data hn e rfl
theorem fmod_in {a b : Int} (hb : 0 < b) : 0 ≤ a.fmod b ∧ a.fmod b < b := ⟨Int.fmod_nonneg_of_pos a hb, Int.fmod_lt_of_pos a hb⟩
theorem fdiv_in {a b : Int} (ha : 0 ≤ a) (hb : 0 < b) : 0 ≤ a.fdiv b := Int.fdiv_nonneg ha (Int.le_of_lt hb)
section
variable {w : World} {mg mb : Str → Option Value} {A : Around} {s : Shared} {Q : Value → Shared → Prop}
set_option maxHeartbeats 4000000 in
theorem take_call (hdp : A.depth + 3 < recursionLimit) (hu : A.units + 100 < cLine) {src : Addr} (g : GS w mg mb src s.heap) (hs : SrcL s.heap src) {top : Int} {tt : Tok} (ht : 0 < top) (ht5 : top ≤ 5)
    (hQ : ∀ h' tk r t, KpB src s.heap h' → SrcL h' src → 0 ≤ r → r < top → Q (.int r t) { s with heap := h', toks := tk }) :
    wpAny (model PySem.Challenge.rw_xm0645_01.row.prog w) A (call (.ref 40) [.ref src, .int top tt]) Q F0 s := by
  have G1 := g.g0
  (refine wpAny_call ?_; refine call_pos_ret (by omega) ((G1).K 40 _ rfl) rfl (G1).T.nolimit (codeRec_of (G1).K rfl) rfl (locs rfl) ?_; intro h₁ F; have X := (G1).K; have T := (G1).T; have N := news0 F)
  obtain ⟨h₀, G, h0, hsz, hk⟩ := g.hide
  obtain ⟨a, b, t, u, n, ha, hb, hb2, hsrc⟩ := hs
  have e1 := F.keep _ _ hsrc
  have F := fr_hide F h0 hsz hk
  clear X T N
  have X := G.K
  have T := G.T
  have N := news_cons (news0 F) e1 (src_ne_ns F.ns e1) h0
  ((repeat' (first | (k_unfold; (try dsimp only)) | (k_end; fail) | ((fail_if_success (with_reducible first | intro _ | refine st_and ?_ | refine st_ex ?_ | refine st_ex1 ?_ | refine st_eq ?_ | refine st_cr ?_ | refine st_td ?_ | refine st_tl ?_ | refine st_tt ?_ | refine st_tz ?_ | refine st_bs ?_ | refine st_ba ?_ | refine st_bp ?_ | refine st_bu ?_ | refine st_bg ?_ | refine st_sn ?_ | refine st_fo ?_ | refine st_al ?_ | refine st_ad ?_ | refine st_el ?_ | refine st_ed ?_ | refine st_cNq ?_ | refine st_cIn ?_ | refine st_cNn ?_)); first | walk1 | (dsimp only; (fail_if_success (with_reducible first | intro _ | refine st_and ?_ | refine st_ex ?_ | refine st_ex1 ?_ | refine st_eq ?_ | refine st_cr ?_ | refine st_td ?_ | refine st_tl ?_ | refine st_tt ?_ | refine st_tz ?_ | refine st_bs ?_ | refine st_ba ?_ | refine st_bp ?_ | refine st_bu ?_ | refine st_bg ?_ | refine st_sn ?_ | refine st_fo ?_ | refine st_al ?_ | refine st_ad ?_ | refine st_el ?_ | refine st_ed ?_ | refine st_cNq ?_ | refine st_cIn ?_ | refine st_cNn ?_)); walk1) | (leave1; walk_say "STEP leave1"; try dsimp only)) | fail "no step")); (try k_sweep); ((try (with_reducible rename Fr _ _ _ _ => F)); (try (with_reducible rename News _ _ _ _ => N))))
  · refine hQ _ _ _ _ (kpb_of hk F.keep) ⟨a.fdiv top, b, _, _, _, fdiv_in ha ht, hb, hb2, N.get (List.Mem.head _)⟩ (fmod_in ht).1 (fmod_in ht).2
  · have hx := fmod_in (a := b * 39373 + 7) (b := 2147483647) (by decide)
    refine mul_int ?_ (IntMulOk.of_left (intBits_le_64 ?_ ?_))
    · ((repeat' (first | (k_unfold; (try dsimp only)) | (k_end; fail) | ((fail_if_success (with_reducible first | intro _ | refine st_and ?_ | refine st_ex ?_ | refine st_ex1 ?_ | refine st_eq ?_ | refine st_cr ?_ | refine st_td ?_ | refine st_tl ?_ | refine st_tt ?_ | refine st_tz ?_ | refine st_bs ?_ | refine st_ba ?_ | refine st_bp ?_ | refine st_bu ?_ | refine st_bg ?_ | refine st_sn ?_ | refine st_fo ?_ | refine st_al ?_ | refine st_ad ?_ | refine st_el ?_ | refine st_ed ?_ | refine st_cNq ?_ | refine st_cIn ?_ | refine st_cNn ?_)); first | walk1 | (dsimp only; (fail_if_success (with_reducible first | intro _ | refine st_and ?_ | refine st_ex ?_ | refine st_ex1 ?_ | refine st_eq ?_ | refine st_cr ?_ | refine st_td ?_ | refine st_tl ?_ | refine st_tt ?_ | refine st_tz ?_ | refine st_bs ?_ | refine st_ba ?_ | refine st_bp ?_ | refine st_bu ?_ | refine st_bg ?_ | refine st_sn ?_ | refine st_fo ?_ | refine st_al ?_ | refine st_ad ?_ | refine st_el ?_ | refine st_ed ?_ | refine st_cNq ?_ | refine st_cIn ?_ | refine st_cNn ?_)); walk1) | (leave1; walk_say "STEP leave1"; try dsimp only)) | fail "no step")); (try k_sweep); ((try (with_reducible rename Fr _ _ _ _ => F)); (try (with_reducible rename News _ _ _ _ => N))))
      refine hQ _ _ _ _ (kpb_of hk F.keep) ⟨a, (b * 39373 + 7).fmod 2147483647, _, _, _, ha, hx.1, hx.2, N.get (List.Mem.head _)⟩ (fmod_in ht).1 (fmod_in ht).2
    · exact Int.lt_of_lt_of_le (by decide) hx.1
    · exact Int.lt_trans hx.2 (by decide)
end
section
variable {w : World} {mg mb : Str → Option Value} {A : Around} {s : Shared} {Q : Value → Shared → Prop}
set_option maxHeartbeats 4000000 in
theorem one_call (hdp : A.depth + 5 < recursionLimit) (hu : A.units + 120 < cLine) {src l : Addr} {vs : List Value} (g : GS w mg mb src s.heap) (hs : SrcL s.heap src) (hl : s.heap.PlainList l vs.toArray) (hne : l ≠ src) (hn : 0 < vs.length) (hn5 : vs.length ≤ 5)
    (hQ : ∀ h' tk v, KpB src s.heap h' → SrcL h' src → v ∈ vs → Q v { s with heap := h', toks := tk }) :
    wpAny (model PySem.Challenge.rw_xm0645_01.row.prog w) A (call (.ref 47) [.ref src, .ref l]) Q F0 s := by
  have G1 := g.g0
  (refine wpAny_call ?_; refine call_pos_ret (by omega) ((G1).K 47 _ rfl) rfl (G1).T.nolimit (codeRec_of (G1).K rfl) rfl (locs rfl) ?_; intro h₁ F; have X := (G1).K; have T := (G1).T; have N := news0 F)
  obtain ⟨h₀, G, h0, hsz, hk⟩ := g.hide
  have hs1 := hs.keep F.keep
  have k1 : Kp s.heap h₁ := F.keep
  have hl1 : h₁.PlainList l vs.toArray := hl.at fun o e => F.keep _ o e
  have F := fr_hide F h0 hsz hk
  clear X T N
  have X := G.K
  have T := G.T
  have N := news0 F
  ((repeat' (first | (k_unfold; (try dsimp only)) | (k_end; fail) | ((fail_if_success (with_reducible first | intro _ | refine st_and ?_ | refine st_ex ?_ | refine st_ex1 ?_ | refine st_eq ?_ | refine st_cr ?_ | refine st_td ?_ | refine st_tl ?_ | refine st_tt ?_ | refine st_tz ?_ | refine st_bs ?_ | refine st_ba ?_ | refine st_bp ?_ | refine st_bu ?_ | refine st_bg ?_ | refine st_sn ?_ | refine st_fo ?_ | refine st_al ?_ | refine st_ad ?_ | refine st_el ?_ | refine st_ed ?_ | refine st_cNq ?_ | refine st_cIn ?_ | refine st_cNn ?_)); first | walk1 | (dsimp only; (fail_if_success (with_reducible first | intro _ | refine st_and ?_ | refine st_ex ?_ | refine st_ex1 ?_ | refine st_eq ?_ | refine st_cr ?_ | refine st_td ?_ | refine st_tl ?_ | refine st_tt ?_ | refine st_tz ?_ | refine st_bs ?_ | refine st_ba ?_ | refine st_bp ?_ | refine st_bu ?_ | refine st_bg ?_ | refine st_sn ?_ | refine st_fo ?_ | refine st_al ?_ | refine st_ad ?_ | refine st_el ?_ | refine st_ed ?_ | refine st_cNq ?_ | refine st_cIn ?_ | refine st_cNn ?_)); walk1) | (leave1; walk_say "STEP leave1"; try dsimp only)) | fail "no step")); (try k_sweep); ((try (with_reducible rename Fr _ _ _ _ => F)); (try (with_reducible rename News _ _ _ _ => N))))
  refine call_len_list hl1.isList (by rw [List.size_toArray]; omega) ?_
  ((repeat' (first | (k_unfold; (try dsimp only)) | (k_end; fail) | ((fail_if_success (with_reducible first | intro _ | refine st_and ?_ | refine st_ex ?_ | refine st_ex1 ?_ | refine st_eq ?_ | refine st_cr ?_ | refine st_td ?_ | refine st_tl ?_ | refine st_tt ?_ | refine st_tz ?_ | refine st_bs ?_ | refine st_ba ?_ | refine st_bp ?_ | refine st_bu ?_ | refine st_bg ?_ | refine st_sn ?_ | refine st_fo ?_ | refine st_al ?_ | refine st_ad ?_ | refine st_el ?_ | refine st_ed ?_ | refine st_cNq ?_ | refine st_cIn ?_ | refine st_cNn ?_)); first | walk1 | (dsimp only; (fail_if_success (with_reducible first | intro _ | refine st_and ?_ | refine st_ex ?_ | refine st_ex1 ?_ | refine st_eq ?_ | refine st_cr ?_ | refine st_td ?_ | refine st_tl ?_ | refine st_tt ?_ | refine st_tz ?_ | refine st_bs ?_ | refine st_ba ?_ | refine st_bp ?_ | refine st_bu ?_ | refine st_bg ?_ | refine st_sn ?_ | refine st_fo ?_ | refine st_al ?_ | refine st_ad ?_ | refine st_el ?_ | refine st_ed ?_ | refine st_cNq ?_ | refine st_cIn ?_ | refine st_cNn ?_)); walk1) | (leave1; walk_say "STEP leave1"; try dsimp only)) | fail "no step")); (try k_sweep); ((try (with_reducible rename Fr _ _ _ _ => F)); (try (with_reducible rename News _ _ _ _ => N))))
  refine ⟨fun a o e => F.keep _ _ (X a o e), ?_⟩
  ((try (with_reducible show wpAny _ _ _ _ _ _)); (try dsimp only))
  k_fold
  refine anyE (take_call (mg := mg) (mb := mb) (src := src) ?hd ?hu ?hg hs1 ?ht ?ht5 ?_)
  case hd => rw [depth_deeper]; omega
  case hu => rw [units_deeper]; omega
  case hg => exact ⟨h₀, G, F.keep, h0⟩
  case ht => rw [List.size_toArray]; omega
  case ht5 => rw [List.size_toArray]; omega
  intro h2 tk2 r t2 kb2 hs2 hr0 hr1
  have hnL : h₁.Ns s.heap.objs.size _ := F.ns
  have kb : KpB src s.heap h2 := (KpB.of_kp k1).trans kb2
  have hl2 := hl1.at fun o e => kb2 _ o hne e
  have hsL : s.heap.objs.size ≠ src := fun z => by
    obtain ⟨_, _, _, _, _, _, _, _, e⟩ := hs1
    exact src_ne_ns hnL e z.symm
  have F : Fr h₀ s.heap.objs.size h2 _ := ⟨F.ns.at' fun o e => kb2 _ o hsL e, fun b o e => kb2 b o (fun z => by subst z; rw [h0] at e; cases e) (F.keep b o e), F.above⟩
  clear N
  have N := news0 F
  ((try (with_reducible show wpAny _ _ _ _ _ _)); (try dsimp only))
  ((repeat' (first | (k_unfold; (try dsimp only)) | (k_end; fail) | ((fail_if_success (with_reducible first | intro _ | refine st_and ?_ | refine st_ex ?_ | refine st_ex1 ?_ | refine st_eq ?_ | refine st_cr ?_ | refine st_td ?_ | refine st_tl ?_ | refine st_tt ?_ | refine st_tz ?_ | refine st_bs ?_ | refine st_ba ?_ | refine st_bp ?_ | refine st_bu ?_ | refine st_bg ?_ | refine st_sn ?_ | refine st_fo ?_ | refine st_al ?_ | refine st_ad ?_ | refine st_el ?_ | refine st_ed ?_ | refine st_cNq ?_ | refine st_cIn ?_ | refine st_cNn ?_)); first | walk1 | (dsimp only; (fail_if_success (with_reducible first | intro _ | refine st_and ?_ | refine st_ex ?_ | refine st_ex1 ?_ | refine st_eq ?_ | refine st_cr ?_ | refine st_td ?_ | refine st_tl ?_ | refine st_tt ?_ | refine st_tz ?_ | refine st_bs ?_ | refine st_ba ?_ | refine st_bp ?_ | refine st_bu ?_ | refine st_bg ?_ | refine st_sn ?_ | refine st_fo ?_ | refine st_al ?_ | refine st_ad ?_ | refine st_el ?_ | refine st_ed ?_ | refine st_cNq ?_ | refine st_cIn ?_ | refine st_cNn ?_)); walk1) | (leave1; walk_say "STEP leave1"; try dsimp only)) | fail "no step")); (try k_sweep); ((try (with_reducible rename Fr _ _ _ _ => F)); (try (with_reducible rename News _ _ _ _ => N))))
  rw [List.size_toArray] at hr1
  have hlt : r.toNat < vs.length := by omega
  refine list_sub hl2.isList hr0 (by omega) (List.getElem?_eq_getElem hlt) ?_
  exact hQ _ _ _ kb hs2 (List.getElem_mem hlt)
end
def CellV (h : Heap) (v : Value) : Prop := ∃ c : Option (Str × Str), RdT h v (cellT c) ∧ ∀ p, c = some p → PyData.strOk p.1 = true ∧ PyData.strOk p.2 = true
theorem CellV.tq {h h' : Heap} {v : Value} (x : CellV h v) (T : Tq h h') : CellV h' v := let ⟨c, r, k⟩ := x; ⟨c, r.tq T, k⟩
theorem cells_row {h : Heap} : ∀ {ys : List Value} {ns : List Nat}, All2 (fun v _ => CellV h v) ys ns → ns.Nodup → ∃ r : Row, (∀ i, i ∉ ns → r i = none) ∧ RowOk r ∧ All2 (fun v i => RdT h v (cellT (r i))) ys ns
  | _, _, .nil, _ => ⟨fun _ => none, fun _ _ => rfl, (fun _ _ e => nomatch e), .nil⟩
  | _, _, .cons (b := i) (bs := ns) a rest, hn => by
    obtain ⟨hi, hn'⟩ := List.nodup_cons.mp hn
    obtain ⟨r, h1, h2, h3⟩ := cells_row rest hn'
    obtain ⟨c, hc, hk⟩ := a
    refine ⟨fun k => if k = i then c else r k, fun k hk' => ?_, fun k p e => ?_, .cons ?_ ?_⟩
    · rw [List.mem_cons, not_or] at hk'
      show (if k = i then c else r k) = none
      rw [if_neg hk'.1]; exact h1 k hk'.2
    · by_cases q : k = i
      · subst q; simp at e; exact hk p e
      · simp [q] at e; exact h2 k p e
    · simpa using hc
    · have aux : ∀ {ys : List Value} {ms : List Nat}, i ∉ ms → All2 (fun v i => RdT h v (cellT (r i))) ys ms → All2 (fun v k => RdT h v (cellT (if k = i then c else r k))) ys ms := by
        intro ys ms hm x
        induction x with
        | nil => exact .nil
        | cons a _ ih =>
          rw [List.mem_cons, not_or] at hm
          refine .cons ?_ (ih hm.2)
          rw [if_neg (Ne.symm hm.1)]; exact a
      exact aux hi h3
theorem all2_const {α β : Type} {P : α → Prop} : ∀ {ys : List α} {ns : List β}, ys.length = ns.length → (∀ v ∈ ys, P v) → All2 (fun v _ => P v) ys ns
  | [], [], _, _ => .nil
  | [], _ :: _, h, _ => by simp at h
  | _ :: _, [], h, _ => by simp at h
  | a :: ys, b :: ns, h, k => .cons (k a (List.mem_cons_self ..)) (all2_const (by simpa using h) fun v hv => k v (List.mem_cons_of_mem _ hv))
theorem nameD_ok : ∀ i, PyData.strOk (nameD i).1 = true ∧ PyData.strOk (nameD i).2 = true
  | 0 => ⟨by decide +kernel, by decide +kernel⟩
  | 1 => ⟨by decide +kernel, by decide +kernel⟩
  | 2 => ⟨by decide +kernel, by decide +kernel⟩
  | 3 => ⟨by decide +kernel, by decide +kernel⟩
  | _ + 4 => ⟨show PyData.strOk ("r:a" : Str) = true by decide +kernel, show PyData.strOk ("s:a" : Str) = true by decide +kernel⟩
theorem pl_ne_src {h : Heap} {l src : Addr} {x : Str} {t : Tok} {vs : List Value} (hl : h.PlainList l (Value.str x t :: vs).toArray) (hs : SrcL h src) : l ≠ src := by
  rintro rfl
  obtain ⟨k, e⟩ := hl
  obtain ⟨a, b, u, v, n, _, _, _, e2⟩ := hs
  rw [e] at e2
  simp [W.listOf] at e2
theorem tup_ne_list {h : Heap} {p D : Addr} {vs us : Array Value} {n : Nat} (ht : IsTup h p vs) (e : h.get? D = some (W.listOf us n)) : p ≠ D := by
  rintro rfl
  obtain ⟨o, ho, hc, _⟩ := ht
  rw [e] at ho; cases ho
  simp at hc
theorem expl2 {m : Str → Option Value} {x y : Str} {a b : Value} (hx : m x = some a) (hy : m y = some b) : m = fun n => if n = x then some a else if n = y then some b else m n := by
  funext n
  by_cases h1 : n = x
  · subst h1; simp [hx]
  · by_cases h2 : n = y
    · subst h2; simp [h1, hy]
    · simp [h1, h2]
theorem fr_kpb {h₀ h h' : Heap} {L src : Addr} {m : Str → Option Value} (F : Fr h₀ L h m) (h0 : h₀.get? src = none) (hsL : L ≠ src) (kb : KpB src h h') : Fr h₀ L h' m :=
  ⟨F.ns.at' fun o e => kb _ o hsL e, fun b o e => kb b o (fun z => by subst z; rw [h0] at e; cases e) (F.keep b o e), F.above⟩
theorem src_bk {h h' : Heap} {L src : Addr} (x : SrcL h src) (bk : ∀ b o, b ≠ L → h.get? b = some o → h'.get? b = some o) (hsL : L ≠ src) : SrcL h' src :=
  let ⟨a, b, t, u, n, q1, q2, q3, e⟩ := x; ⟨a, b, t, u, n, q1, q2, q3, bk _ _ (Ne.symm hsL) e⟩
structure RJ (h₀ h6 : Heap) (L D src : Addr) (i : Nat) (m : Str → Option Value) (h : Heap) : Prop where
  base : Kp h₀ h
  more : ∀ b o, b ≠ L → b ≠ D → b ≠ src → h6.get? b = some o → h.get? b = some o
  so : SrcL h src
  found : ∃ ys : List Value, h.PlainList D ys.toArray ∧ ys.length = i ∧ ∀ v ∈ ys, CellV h v
  ms : m "source" = some (.ref src)
  mf : m "found" = some (.ref D)
theorem src_list {h : Heap} {src : Addr} (x : SrcL h src) : ∃ us n, h.get? src = some (W.listOf us n) := let ⟨_, _, _, _, _, _, _, _, e⟩ := x; ⟨_, _, e⟩
theorem RJ.app {h₀ h6 hh h27 h28 : Heap} {L D src : Addr} {i : Nat} {ys : List Value} {v : Value} {ky : Nat} {m m₁ m₂ : Str → Option Value} (hns : hh.Ns L m₁) (jm : ∀ b o, b ≠ L → b ≠ D → b ≠ src → h6.get? b = some o → hh.get? b = some o) (js : SrcL hh src)
    (hDy : hh.get? D = some (W.listOf ys.toArray ky)) (hy2 : ys.length = i) (hy3 : ∀ v ∈ ys, CellV hh v) (hDs : D ≠ src) (F : Fr h₀ L h28 m₂)
    (K : ∀ b o, b ≠ L → b ≠ src → hh.get? b = some o → h27.get? b = some o) (hs27 : SrcL h27 src) (hc : CellV h27 v) (hl : h28.PlainList D (ys.toArray.push v)) (hk : ∀ b o, b ≠ D → h27.get? b = some o → h28.get? b = some o)
    (hD27 : h27.get? D = some (W.listOf ys.toArray ky)) (e1 : m "source" = some (.ref src)) (e2 : m "found" = some (.ref D)) : RJ h₀ h6 L D src (i + 1) m h28 := by
  have T2 : Tq h27 h28 := Tq.of_but (X := (· = D)) (fun b o q e => hk b o q e) (fun b o vs n q e hc hd => by subst q; rw [hD27] at e; cases e; simp at hc)
  have T1 : Tq hh h28 := Tq.of_but (X := fun b => b = L ∨ b = src ∨ b = D) (fun b o q e => hk b o (fun z => q (.inr (.inr z))) (K b o (fun z => q (.inl z)) (fun z => q (.inr (.inl z))) e)) (by
    rintro b o vs n (q | q | q) e hc hd
    · subst q; exact ns_data hns e hd
    · subst q; obtain ⟨us, n, e2⟩ := src_list js; rw [e2] at e; cases e; simp at hc
    · subst q; rw [hDy] at e; cases e; simp at hc)
  refine ⟨F.keep, fun b o q1 q2 q3 e => hk b o q2 (K b o q1 q3 (jm b o q1 q2 q3 e)), ?_, ⟨ys ++ [v], by simpa using hl, by simp [hy2], fun x hx => ?_⟩, e1, e2⟩
  · obtain ⟨a, b, t, u, n, q1, q2, q3, e⟩ := hs27
    exact ⟨a, b, t, u, n, q1, q2, q3, hk _ _ (Ne.symm hDs) e⟩
  · rcases List.mem_append.mp hx with hx | hx
    · exact (hy3 x hx).tq T1
    · rw [List.mem_singleton.mp hx]; exact hc.tq T2
section
variable {w : World} {mg mb : Str → Option Value} {A : Around} {s : Shared} {Q : Value → Shared → Prop}
set_option maxHeartbeats 4000000 in
theorem row_call (hh : A.handled = none) (hdp : A.depth + 8 < recursionLimit) (hu : A.units + 140 < cLine) {src : Addr} (g : GS w mg mb src s.heap) (hs : SrcL s.heap src)
    (hQ : ∀ h' tk D r, KpB src s.heap h' → SrcL h' src → s.heap.get? D = none → RowL h' D r → Q (.ref D) { s with heap := h', toks := tk }) :
    wpAny (model PySem.Challenge.rw_xm0645_01.row.prog w) A (call (.ref 61) [.ref src]) Q F0 s := by
  have G1 := g.g0
  (refine wpAny_call ?_; refine call_pos_ret (by omega) ((G1).K 61 _ rfl) rfl (G1).T.nolimit (codeRec_of (G1).K rfl) rfl (locs rfl) ?_; intro h₁ F; have X := (G1).K; have T := (G1).T; have N := news0 F)
  obtain ⟨h₀, G, h0, hsz, hk⟩ := g.hide
  have hs1 := hs.keep F.keep
  have k1 : Kp s.heap h₁ := F.keep
  have F := fr_hide F h0 hsz hk
  clear X T N
  have X := G.K
  have T := G.T
  obtain ⟨us, n, hsrc⟩ := src_list hs1
  have hsL : s.heap.objs.size ≠ src := fun z => src_ne_ns F.ns hsrc z.symm
  have hLn : h₀.get? s.heap.objs.size = none := fresh_none (Nat.le_of_eq hsz)
  obtain ⟨nl, N, back⟩ := all_news F
  ((repeat' (first | (k_unfold; (try dsimp only)) | (k_end; fail) | ((fail_if_success (with_reducible first | intro _ | refine st_and ?_ | refine st_ex ?_ | refine st_ex1 ?_ | refine st_eq ?_ | refine st_cr ?_ | refine st_td ?_ | refine st_tl ?_ | refine st_tt ?_ | refine st_tz ?_ | refine st_bs ?_ | refine st_ba ?_ | refine st_bp ?_ | refine st_bu ?_ | refine st_bg ?_ | refine st_sn ?_ | refine st_fo ?_ | refine st_al ?_ | refine st_ad ?_ | refine st_el ?_ | refine st_ed ?_ | refine st_cNq ?_ | refine st_cIn ?_ | refine st_cNn ?_)); first | walk1 | (dsimp only; (fail_if_success (with_reducible first | intro _ | refine st_and ?_ | refine st_ex ?_ | refine st_ex1 ?_ | refine st_eq ?_ | refine st_cr ?_ | refine st_td ?_ | refine st_tl ?_ | refine st_tt ?_ | refine st_tz ?_ | refine st_bs ?_ | refine st_ba ?_ | refine st_bp ?_ | refine st_bu ?_ | refine st_bg ?_ | refine st_sn ?_ | refine st_fo ?_ | refine st_al ?_ | refine st_ad ?_ | refine st_el ?_ | refine st_ed ?_ | refine st_cNq ?_ | refine st_cIn ?_ | refine st_cNn ?_)); walk1) | (leave1; walk_say "STEP leave1"; try dsimp only)) | fail "no step")); (try k_sweep); ((try (with_reducible rename Fr _ _ _ _ => F)); (try (with_reducible rename News _ _ _ _ => N))))
  rename_i Df hA5 lt5 h5
  have bk5 := back F N (fun p hp => List.Mem.tail _ hp)
  have hs5 : SrcL h5 src := (let ⟨a, b, t, u, n, q1, q2, q3, e⟩ := hs1; ⟨a, b, t, u, n, q1, q2, q3, bk5 _ _ (Ne.symm hsL) e⟩)
  have hDf5 : h5.get? Df = some (W.listOf #[] 0) := N.get (List.Mem.head _)
  have hDfn : h₀.get? Df = none := N.fresh (List.Mem.head _)
  clear N back
  have N := news0 F
  ((try (with_reducible show wpAny _ _ _ _ _ _)); (try dsimp only))
  k_fold
  refine anyE (wpAny_For ?_)
  ((repeat' (first | (k_unfold; (try dsimp only)) | (k_end; fail) | ((fail_if_success (with_reducible first | intro _ | refine st_and ?_ | refine st_ex ?_ | refine st_ex1 ?_ | refine st_eq ?_ | refine st_cr ?_ | refine st_td ?_ | refine st_tl ?_ | refine st_tt ?_ | refine st_tz ?_ | refine st_bs ?_ | refine st_ba ?_ | refine st_bp ?_ | refine st_bu ?_ | refine st_bg ?_ | refine st_sn ?_ | refine st_fo ?_ | refine st_al ?_ | refine st_ad ?_ | refine st_el ?_ | refine st_ed ?_ | refine st_cNq ?_ | refine st_cIn ?_ | refine st_cNn ?_)); first | walk1 | (dsimp only; (fail_if_success (with_reducible first | intro _ | refine st_and ?_ | refine st_ex ?_ | refine st_ex1 ?_ | refine st_eq ?_ | refine st_cr ?_ | refine st_td ?_ | refine st_tl ?_ | refine st_tt ?_ | refine st_tz ?_ | refine st_bs ?_ | refine st_ba ?_ | refine st_bp ?_ | refine st_bu ?_ | refine st_bg ?_ | refine st_sn ?_ | refine st_fo ?_ | refine st_al ?_ | refine st_ad ?_ | refine st_el ?_ | refine st_ed ?_ | refine st_cNq ?_ | refine st_cIn ?_ | refine st_cNn ?_)); walk1) | (leave1; walk_say "STEP leave1"; try dsimp only)) | fail "no step")); (try k_sweep); ((try (with_reducible rename Fr _ _ _ _ => F)); (try (with_reducible rename News _ _ _ _ => N))))
  refine keys_call (by rw [depth_deeper]; omega) (by rw [units_deeper]; omega) (G.keep F.keep) ?_
  intro h6 tk6 l items kp6 hl0 hpl hall
  have hs6 := hs5.keep kp6
  have hDf6 := kp6 _ _ hDf5
  have F := F.keeps kp6
  clear N
  have N := news0 F
  have hn5 : items.length = 5 := hall.length
  have hDfs : Df ≠ src := fun z => by
    obtain ⟨_, _, _, _, _, _, _, _, e⟩ := hs6
    rw [← z, hDf6] at e; cases e
  obtain ⟨us6, n6, hsrc6⟩ := src_list hs6
  have hDL : Df ≠ s.heap.objs.size := src_ne_ns F.ns hDf6
  have hns6 := F.ns
  ((try (with_reducible show wpAny _ _ _ _ _ _)); (try dsimp only))
  refine anyE (list_for_tup2 (U := fun b => b = s.heap.objs.size ∨ b = Df ∨ b = src) (xs := ["key", "names"]) (vs := items) (B := fun i ws => ∃ kk nn t1 t2, ws = [.ref kk, .ref nn] ∧ h6.PlainList nn #[.str (nameD i).1 t1, .str (nameD i).2 t2]) hh hpl.isList ?_ ?_ ?_ ?_)
  · intro i v hv
    obtain ⟨j, hj, p, kk, nn, t1, t2, rfl, ht, hr, hnl⟩ := hall.get2 hv
    have : j = i := by
      rw [List.getElem?_range (by have := (List.getElem?_eq_some_iff.mp hj).1; simpa using this)] at hj
      exact (Option.some.inj hj).symm
    subst this
    refine ⟨p, [.ref kk, .ref nn], rfl, ?_, ht, rfl, kk, nn, t1, t2, rfl, hnl⟩
    rintro (q | q | q)
    · exact tup_ne_ns F.ns ht q
    · exact tup_ne_list ht hDf6 q
    · exact tup_ne_list ht hsrc6 q
  · rintro b (rfl | rfl | rfl)
    · exact F.ns.lt
    · exact Heap.lt_size hDf6
    · exact Heap.lt_size hsrc6
  · rintro (q | q | q)
    · exact pl_ne_ns F.ns hpl q
    · subst q; rw [show _ = none from hl0] at hDf5; cases hDf5
    · subst q; obtain ⟨_, _, e⟩ := src_list hs5; rw [show _ = none from hl0] at e; cases e
  intro I RDs St h12 It hSt hst0 hnRD hI kp12
  have hI6 : h6.get? I = none := hI
  refine for_block2 (RJ h₀ h6 s.heap.objs.size Df src) (It (.cons (.cons .nil)) ?_ (fun C => rfl)) (hnRD _ (.inl rfl)) hst0 (F.ns.at' fun o e => kp12 _ o e) ?_ ?_ ?_ ?_
  · intro C x hx; simp at hx; rcases hx with rfl | rfl <;> rfl
  · exact ⟨fun b o e => kp12 b o (F.keep b o e), fun b o _ _ _ e => kp12 b o e, hs6.keep kp12, ⟨[], ⟨_, kp12 _ _ hDf6⟩, rfl, fun _ h => nomatch h⟩, rfl, rfl⟩
  · intro i m m₁ h h' st hn hkk J
    have nI : ∀ b o, h6.get? b = some o → ¬ b ∈ [I] := fun b o e q => by rw [List.mem_singleton.mp q, hI6] at e; cases e
    have T : Tq h h' := Tq.of_but (X := fun b => b ∈ [I] ∨ b = s.heap.objs.size) (fun b o q e => hkk b o (fun z => q (.inl z)) (fun z => q (.inr z)) e) (by
      rintro b o vs n (q | q) e hc hd
      · rw [List.mem_singleton.mp q] at e
        obtain ⟨o', e', hc', _⟩ := hSt i h st
        rw [e] at e'; cases e'; rw [hc] at hc'; simp at hc'
      · subst q; exact ns_data hn e hd)
    obtain ⟨ys, hy1, hy2, hy3⟩ := J.found
    refine ⟨fun b o e => hkk b o (nI b o (F.keep b o e)) (fun q => ?_) (J.base b o e), fun b o q1 q2 q3 e => hkk b o (nI b o e) q1 (J.more b o q1 q2 q3 e), ?_, ⟨ys, hy1.at fun o e => hkk _ o (nI _ _ hDf6) hDL e, hy2, fun v hv => (hy3 v hv).tq T⟩, J.ms, J.mf⟩
    · rw [show b = s.heap.objs.size from q, hLn] at e; cases e
    · obtain ⟨a, b, t, u, n, q1, q2, q3, e⟩ := J.so
      exact ⟨a, b, t, u, n, q1, q2, q3, hkk _ _ (nI _ _ hsrc6) (Ne.symm hsL) e⟩
  · rintro i s' m₀ m hi J ⟨ws, ⟨kk, nn, t1, t2, rfl, hnn⟩, _, rfl⟩ hns hst ⟨hh', tk', rfl⟩
    obtain ⟨jb, jm, js, ⟨ys, hy1, hy2, hy3⟩, e1, e2⟩ := J
    rw [expl2 e1 e2] at hns
    have F : Fr h₀ s.heap.objs.size hh' _ := ⟨hns, jb, F.above⟩
    clear N
    have N := news0 F
    ((repeat' (first | (k_unfold; (try dsimp only)) | (k_end; fail) | ((fail_if_success (with_reducible first | intro _ | refine st_and ?_ | refine st_ex ?_ | refine st_ex1 ?_ | refine st_eq ?_ | refine st_cr ?_ | refine st_td ?_ | refine st_tl ?_ | refine st_tt ?_ | refine st_tz ?_ | refine st_bs ?_ | refine st_ba ?_ | refine st_bp ?_ | refine st_bu ?_ | refine st_bg ?_ | refine st_sn ?_ | refine st_fo ?_ | refine st_al ?_ | refine st_ad ?_ | refine st_el ?_ | refine st_ed ?_ | refine st_cNq ?_ | refine st_cIn ?_ | refine st_cNn ?_)); first | walk1 | (dsimp only; (fail_if_success (with_reducible first | intro _ | refine st_and ?_ | refine st_ex ?_ | refine st_ex1 ?_ | refine st_eq ?_ | refine st_cr ?_ | refine st_td ?_ | refine st_tl ?_ | refine st_tt ?_ | refine st_tz ?_ | refine st_bs ?_ | refine st_ba ?_ | refine st_bp ?_ | refine st_bu ?_ | refine st_bg ?_ | refine st_sn ?_ | refine st_fo ?_ | refine st_al ?_ | refine st_ad ?_ | refine st_el ?_ | refine st_ed ?_ | refine st_cNq ?_ | refine st_cIn ?_ | refine st_cNn ?_)); walk1) | (leave1; walk_say "STEP leave1"; try dsimp only)) | fail "no step")); (try k_sweep); ((try (with_reducible rename Fr _ _ _ _ => F)); (try (with_reducible rename News _ _ _ _ => N))))
    refine ⟨fun a o e => F.keep _ _ (X a o e), ?_⟩
    ((try (with_reducible show wpAny _ _ _ _ _ _)); (try dsimp only))
    k_fold
    have hnL : nn ≠ s.heap.objs.size := pl_ne_ns hns6 hnn
    have hnD : nn ≠ Df := by
      rintro rfl
      obtain ⟨k, e⟩ := hnn
      rw [hDf6] at e; simp [W.listOf] at e
    have hnS : nn ≠ src := pl_ne_src (vs := [_]) hnn hs6
    have hnh : hh'.PlainList nn [.str (nameD i).1 t1, .str (nameD i).2 t2].toArray := hnn.at fun o e => jm _ o hnL hnD hnS e
    refine anyE (one_call (mg := mg) (mb := mb) (src := src) (l := nn) (vs := [.str (nameD i).1 t1, .str (nameD i).2 t2]) ?hd ?hu ?hg js hnh hnS (by simp) (by simp) ?_)
    case hd => rw [depth_deeper]; omega
    case hu => rw [units_deeper]; omega
    case hg => exact ⟨h₀, G, F.keep, h0⟩
    intro h20 tk20 v20 kb20 hs20 hv20
    obtain ⟨x1, tx1, rfl, hx1⟩ : ∃ x t, v20 = .str x t ∧ PyData.strOk x = true := by
      simp at hv20
      rcases hv20 with rfl | rfl
      · exact ⟨_, _, rfl, (nameD_ok i).1⟩
      · exact ⟨_, _, rfl, (nameD_ok i).2⟩
    have F := fr_kpb F h0 hsL kb20
    have K : ∀ b o, b ≠ s.heap.objs.size → b ≠ src → hh'.get? b = some o → h20.get? b = some o := fun b o _ hb e => kb20 b o hb e
    clear N
    obtain ⟨nl, N, back⟩ := all_news F
    ((try (with_reducible show wpAny _ _ _ _ _ _)); (try dsimp only))
    ((repeat' (first | (k_unfold; (try dsimp only)) | (k_end; fail) | ((fail_if_success (with_reducible first | intro _ | refine st_and ?_ | refine st_ex ?_ | refine st_ex1 ?_ | refine st_eq ?_ | refine st_cr ?_ | refine st_td ?_ | refine st_tl ?_ | refine st_tt ?_ | refine st_tz ?_ | refine st_bs ?_ | refine st_ba ?_ | refine st_bp ?_ | refine st_bu ?_ | refine st_bg ?_ | refine st_sn ?_ | refine st_fo ?_ | refine st_al ?_ | refine st_ad ?_ | refine st_el ?_ | refine st_ed ?_ | refine st_cNq ?_ | refine st_cIn ?_ | refine st_cNn ?_)); first | walk1 | (dsimp only; (fail_if_success (with_reducible first | intro _ | refine st_and ?_ | refine st_ex ?_ | refine st_ex1 ?_ | refine st_eq ?_ | refine st_cr ?_ | refine st_td ?_ | refine st_tl ?_ | refine st_tt ?_ | refine st_tz ?_ | refine st_bs ?_ | refine st_ba ?_ | refine st_bp ?_ | refine st_bu ?_ | refine st_bg ?_ | refine st_sn ?_ | refine st_fo ?_ | refine st_al ?_ | refine st_ad ?_ | refine st_el ?_ | refine st_ed ?_ | refine st_cNq ?_ | refine st_cIn ?_ | refine st_cNn ?_)); walk1) | (leave1; walk_say "STEP leave1"; try dsimp only)) | fail "no step")); (try k_sweep); ((try (with_reducible rename Fr _ _ _ _ => F)); (try (with_reducible rename News _ _ _ _ => N))))
    rename_i D2 h21 lt21
    have bk := back F N (fun p hp => List.Mem.tail _ hp)
    have K := fun b o hb hb2 e => bk b o hb (K b o hb hb2 e)
    have hs21 : SrcL h21 src := (let ⟨a, b, t, u, n, q1, q2, q3, e⟩ := hs20; ⟨a, b, t, u, n, q1, q2, q3, bk _ _ (Ne.symm hsL) e⟩)
    obtain ⟨ua, ub, uc, hl21⟩ : ∃ a b c, h21.PlainList D2 [.str "1" a, .str "2" b, .str "" c].toArray := ⟨_, _, _, plN N (List.Mem.head _)⟩
    refine ⟨fun a o e => F.keep _ _ (X a o e), ?_⟩
    ((try (with_reducible show wpAny _ _ _ _ _ _)); (try dsimp only))
    k_fold
    refine anyE (one_call (mg := mg) (mb := mb) (src := src) (l := D2) (vs := [.str "1" ua, .str "2" ub, .str "" uc]) ?hd ?hu ?hg hs21 hl21 (pl_ne_src (vs := [_, _]) hl21 hs21) (by simp) (by simp) ?_)
    case hd => rw [depth_deeper]; omega
    case hu => rw [units_deeper]; omega
    case hg => exact ⟨h₀, G, F.keep, h0⟩
    intro h22 tk22 v22 kb22 hs22 hv22
    obtain ⟨x2, tx2, rfl, hx2⟩ : ∃ x t, v22 = .str x t ∧ PyData.strOk x = true := by
      simp at hv22
      rcases hv22 with rfl | rfl | rfl
      · exact ⟨_, _, rfl, by decide +kernel⟩
      · exact ⟨_, _, rfl, by decide +kernel⟩
      · exact ⟨_, _, rfl, by decide +kernel⟩
    have F := fr_kpb F h0 hsL kb22
    have K : ∀ b o, b ≠ s.heap.objs.size → b ≠ src → hh'.get? b = some o → h22.get? b = some o := fun b o hb hb2 e => kb22 b o hb2 (K b o hb hb2 e)
    clear N back
    obtain ⟨nl, N, back⟩ := all_news F
    ((try (with_reducible show wpAny _ _ _ _ _ _)); (try dsimp only))
    ((repeat' (first | (k_unfold; (try dsimp only)) | (k_end; fail) | ((fail_if_success (with_reducible first | intro _ | refine st_and ?_ | refine st_ex ?_ | refine st_ex1 ?_ | refine st_eq ?_ | refine st_cr ?_ | refine st_td ?_ | refine st_tl ?_ | refine st_tt ?_ | refine st_tz ?_ | refine st_bs ?_ | refine st_ba ?_ | refine st_bp ?_ | refine st_bu ?_ | refine st_bg ?_ | refine st_sn ?_ | refine st_fo ?_ | refine st_al ?_ | refine st_ad ?_ | refine st_el ?_ | refine st_ed ?_ | refine st_cNq ?_ | refine st_cIn ?_ | refine st_cNn ?_)); first | walk1 | (dsimp only; (fail_if_success (with_reducible first | intro _ | refine st_and ?_ | refine st_ex ?_ | refine st_ex1 ?_ | refine st_eq ?_ | refine st_cr ?_ | refine st_td ?_ | refine st_tl ?_ | refine st_tt ?_ | refine st_tz ?_ | refine st_bs ?_ | refine st_ba ?_ | refine st_bp ?_ | refine st_bu ?_ | refine st_bg ?_ | refine st_sn ?_ | refine st_fo ?_ | refine st_al ?_ | refine st_ad ?_ | refine st_el ?_ | refine st_ed ?_ | refine st_cNq ?_ | refine st_cIn ?_ | refine st_cNn ?_)); walk1) | (leave1; walk_say "STEP leave1"; try dsimp only)) | fail "no step")); (try k_sweep); ((try (with_reducible rename Fr _ _ _ _ => F)); (try (with_reducible rename News _ _ _ _ => N))))
    rename_i D3 h23 lt23
    have htD : IsTup h23 D3 #[.str x1 tx1, .str x2 tx2] := tupN N (List.Mem.head _)
    have bk := back F N (fun p hp => List.Mem.tail _ hp)
    have K := fun b o hb hb2 e => bk b o hb (K b o hb hb2 e)
    have hs23 : SrcL h23 src := (let ⟨a, b, t, u, n, q1, q2, q3, e⟩ := hs22; ⟨a, b, t, u, n, q1, q2, q3, bk _ _ (Ne.symm hsL) e⟩)
    ((try (with_reducible show wpAny _ _ _ _ _ _)); (try dsimp only))
    refine anyE (show wpAny _ _ (unpackItems (.ref D3) 2 none) _ F0 _ from wpAny_unpackItems_tuple (items := #[.str x1 tx1, .str x2 tx2]) hh htD fun h24 he => ?_)
    have kp24 : Kp h23 h24 := fun b o e => he b o (Nat.ne_of_lt (Heap.lt_size e)) e
    have F := F.keeps kp24
    have K := fun b o hb hb2 e => kp24 b o (K b o hb hb2 e)
    have hs24 := hs23.keep kp24
    clear N back
    obtain ⟨ky, hDy⟩ := id hy1
    have hD24 := K _ _ hDL hDfs hDy
    obtain ⟨nl, N0, back⟩ := all_news F
    have N := news_cons N0 hD24 hDL hDfn
    ((try (with_reducible show wpAny _ _ _ _ _ _)); (try dsimp only))
    ((repeat' (first | (k_unfold; (try dsimp only)) | (k_end; fail) | ((fail_if_success (with_reducible first | intro _ | refine st_and ?_ | refine st_ex ?_ | refine st_ex1 ?_ | refine st_eq ?_ | refine st_cr ?_ | refine st_td ?_ | refine st_tl ?_ | refine st_tt ?_ | refine st_tz ?_ | refine st_bs ?_ | refine st_ba ?_ | refine st_bp ?_ | refine st_bu ?_ | refine st_bg ?_ | refine st_sn ?_ | refine st_fo ?_ | refine st_al ?_ | refine st_ad ?_ | refine st_el ?_ | refine st_ed ?_ | refine st_cNq ?_ | refine st_cIn ?_ | refine st_cNn ?_)); first | walk1 | (dsimp only; (fail_if_success (with_reducible first | intro _ | refine st_and ?_ | refine st_ex ?_ | refine st_ex1 ?_ | refine st_eq ?_ | refine st_cr ?_ | refine st_td ?_ | refine st_tl ?_ | refine st_tt ?_ | refine st_tz ?_ | refine st_bs ?_ | refine st_ba ?_ | refine st_bp ?_ | refine st_bu ?_ | refine st_bg ?_ | refine st_sn ?_ | refine st_fo ?_ | refine st_al ?_ | refine st_ad ?_ | refine st_el ?_ | refine st_ed ?_ | refine st_cNq ?_ | refine st_cIn ?_ | refine st_cNn ?_)); walk1) | (leave1; walk_say "STEP leave1"; try dsimp only)) | fail "no step")); (try k_sweep); ((try (with_reducible rename Fr _ _ _ _ => F)); (try (with_reducible rename News _ _ _ _ => N))))
    have bk := back F N (fun p hp => List.Mem.tail _ hp)
    have K := fun b o hb hb2 e => bk b o hb (K b o hb hb2 e)
    have hs25 := src_bk hs24 bk hsL
    refine ⟨fun a o e => F.keep _ _ (X a o e), ?_⟩
    ((try (with_reducible show wpAny _ _ _ _ _ _)); (try dsimp only))
    k_fold
    refine anyE (take_call (mg := mg) (mb := mb) (src := src) ?hd ?hu ?hg hs25 (by decide) (by decide) ?_)
    case hd => rw [depth_deeper]; omega
    case hu => rw [units_deeper]; omega
    case hg => exact ⟨h₀, G, F.keep, h0⟩
    intro h26 tk26 r26 t26 kb26 hs26 hr0 hr1
    have F := fr_kpb F h0 hsL kb26
    have K : ∀ b o, b ≠ s.heap.objs.size → b ≠ src → hh'.get? b = some o → h26.get? b = some o := fun b o hb hb2 e => kb26 b o hb2 (K b o hb hb2 e)
    have hD26 := K _ _ hDL hDfs hDy
    clear N back bk
    obtain ⟨nl, N0, back⟩ := all_news F
    have N := news_cons N0 hD26 hDL hDfn
    ((try (with_reducible show wpAny _ _ _ _ _ _)); (try dsimp only))
    ((repeat' (first | (k_unfold; (try dsimp only)) | (k_end; fail) | ((fail_if_success (with_reducible first | intro _ | refine st_and ?_ | refine st_ex ?_ | refine st_ex1 ?_ | refine st_eq ?_ | refine st_cr ?_ | refine st_td ?_ | refine st_tl ?_ | refine st_tt ?_ | refine st_tz ?_ | refine st_bs ?_ | refine st_ba ?_ | refine st_bp ?_ | refine st_bu ?_ | refine st_bg ?_ | refine st_sn ?_ | refine st_fo ?_ | refine st_al ?_ | refine st_ad ?_ | refine st_el ?_ | refine st_ed ?_ | refine st_cNq ?_ | refine st_cIn ?_ | refine st_cNn ?_)); first | walk1 | (dsimp only; (fail_if_success (with_reducible first | intro _ | refine st_and ?_ | refine st_ex ?_ | refine st_ex1 ?_ | refine st_eq ?_ | refine st_cr ?_ | refine st_td ?_ | refine st_tl ?_ | refine st_tt ?_ | refine st_tz ?_ | refine st_bs ?_ | refine st_ba ?_ | refine st_bp ?_ | refine st_bu ?_ | refine st_bg ?_ | refine st_sn ?_ | refine st_fo ?_ | refine st_al ?_ | refine st_ad ?_ | refine st_el ?_ | refine st_ed ?_ | refine st_cNq ?_ | refine st_cIn ?_ | refine st_cNn ?_)); walk1) | (leave1; walk_say "STEP leave1"; try dsimp only)) | fail "no step")); (try k_sweep); ((try (with_reducible rename Fr _ _ _ _ => F)); (try (with_reducible rename News _ _ _ _ => N))))
    · rename_i D7 h27 lt27
      have bk := back F N (fun p hp => List.Mem.tail _ (List.Mem.tail _ hp))
      have K := fun b o hb hb2 e => bk b o hb (K b o hb hb2 e)
      have hs27 := src_bk hs26 bk hsL
      have htc : IsTup h27 D7 [.str x1 tx1, .str x2 tx2].toArray := tupN N (List.Mem.head _)
      have hD27 := bk _ _ hDL hD26
      have hc27 : CellV h27 (.ref D7) := ⟨some (x1, x2), Rd.of_tup trivial htc (.cons (.str _ _) (.cons (.str _ _) .nil)), fun p e => by cases e; exact ⟨hx1, hx2⟩⟩
      refine wpAny_list_append_plain ⟨_, hD27⟩ (fun h28 hl28 hs28 => ?_) (by rw [List.size_toArray, sizeLine_eq]; omega)
      have hk28 : ∀ b o, b ≠ Df → h27.get? b = some o → h28.get? b = some o := fun b o hb e => hs28.extBut b o hb e
      have F := but_Fr' F hDL hDfn hk28
      clear N
      have N := news0 F
      ((try (with_reducible show wpAny _ _ _ _ _ _)); (try dsimp only))
      ((repeat' (first | (k_unfold; (try dsimp only)) | (k_end; fail) | ((fail_if_success (with_reducible first | intro _ | refine st_and ?_ | refine st_ex ?_ | refine st_ex1 ?_ | refine st_eq ?_ | refine st_cr ?_ | refine st_td ?_ | refine st_tl ?_ | refine st_tt ?_ | refine st_tz ?_ | refine st_bs ?_ | refine st_ba ?_ | refine st_bp ?_ | refine st_bu ?_ | refine st_bg ?_ | refine st_sn ?_ | refine st_fo ?_ | refine st_al ?_ | refine st_ad ?_ | refine st_el ?_ | refine st_ed ?_ | refine st_cNq ?_ | refine st_cIn ?_ | refine st_cNn ?_)); first | walk1 | (dsimp only; (fail_if_success (with_reducible first | intro _ | refine st_and ?_ | refine st_ex ?_ | refine st_ex1 ?_ | refine st_eq ?_ | refine st_cr ?_ | refine st_td ?_ | refine st_tl ?_ | refine st_tt ?_ | refine st_tz ?_ | refine st_bs ?_ | refine st_ba ?_ | refine st_bp ?_ | refine st_bu ?_ | refine st_bg ?_ | refine st_sn ?_ | refine st_fo ?_ | refine st_al ?_ | refine st_ad ?_ | refine st_el ?_ | refine st_ed ?_ | refine st_cNq ?_ | refine st_cIn ?_ | refine st_cNn ?_)); walk1) | (leave1; walk_say "STEP leave1"; try dsimp only)) | fail "no step")); (try k_sweep); ((try (with_reducible rename Fr _ _ _ _ => F)); (try (with_reducible rename News _ _ _ _ => N))))
      exact ⟨h28, _, _, rfl, F.ns, RJ.app hns jm js hDy hy2 hy3 hDfs F K hs27 hc27 hl28 hk28 hD27 rfl rfl, fun b o hr e => hk28 b o (fun q => hnRD b (.inr (.inl q)) hr) (K b o (fun q => hnRD b (.inl q) hr) (fun q => hnRD b (.inr (.inr q)) hr) e)⟩
    · have bk := back F N (fun p hp => List.Mem.tail _ hp)
      have K := fun b o hb hb2 e => bk b o hb (K b o hb hb2 e)
      have hs27 := src_bk hs26 bk hsL
      have hD27 := bk _ _ hDL hD26
      have hc27 : CellV h26 .none := ⟨none, .none, fun p e => nomatch e⟩
      refine wpAny_list_append_plain ⟨_, hD27⟩ (fun h28 hl28 hs28 => ?_) (by rw [List.size_toArray, sizeLine_eq]; omega)
      have hk28 : ∀ b o, b ≠ Df → h26.get? b = some o → h28.get? b = some o := fun b o hb e => hs28.extBut b o hb e
      have F := but_Fr' F hDL hDfn hk28
      clear N
      have N := news0 F
      ((try (with_reducible show wpAny _ _ _ _ _ _)); (try dsimp only))
      ((repeat' (first | (k_unfold; (try dsimp only)) | (k_end; fail) | ((fail_if_success (with_reducible first | intro _ | refine st_and ?_ | refine st_ex ?_ | refine st_ex1 ?_ | refine st_eq ?_ | refine st_cr ?_ | refine st_td ?_ | refine st_tl ?_ | refine st_tt ?_ | refine st_tz ?_ | refine st_bs ?_ | refine st_ba ?_ | refine st_bp ?_ | refine st_bu ?_ | refine st_bg ?_ | refine st_sn ?_ | refine st_fo ?_ | refine st_al ?_ | refine st_ad ?_ | refine st_el ?_ | refine st_ed ?_ | refine st_cNq ?_ | refine st_cIn ?_ | refine st_cNn ?_)); first | walk1 | (dsimp only; (fail_if_success (with_reducible first | intro _ | refine st_and ?_ | refine st_ex ?_ | refine st_ex1 ?_ | refine st_eq ?_ | refine st_cr ?_ | refine st_td ?_ | refine st_tl ?_ | refine st_tt ?_ | refine st_tz ?_ | refine st_bs ?_ | refine st_ba ?_ | refine st_bp ?_ | refine st_bu ?_ | refine st_bg ?_ | refine st_sn ?_ | refine st_fo ?_ | refine st_al ?_ | refine st_ad ?_ | refine st_el ?_ | refine st_ed ?_ | refine st_cNq ?_ | refine st_cIn ?_ | refine st_cNn ?_)); walk1) | (leave1; walk_say "STEP leave1"; try dsimp only)) | fail "no step")); (try k_sweep); ((try (with_reducible rename Fr _ _ _ _ => F)); (try (with_reducible rename News _ _ _ _ => N))))
      exact ⟨h28, _, _, rfl, F.ns, RJ.app hns jm js hDy hy2 hy3 hDfs F K hs27 hc27 hl28 hk28 hD27 rfl rfl, fun b o hr e => hk28 b o (fun q => hnRD b (.inr (.inl q)) hr) (K b o (fun q => hnRD b (.inl q) hr) (fun q => hnRD b (.inr (.inr q)) hr) e)⟩
  · intro h15 tk15 m15 hns15 J15
    obtain ⟨jb, jm, js, ⟨ys, hy1, hy2, hy3⟩, e1, e2⟩ := J15
    rw [expl2 e1 e2] at hns15
    have F : Fr h₀ s.heap.objs.size h15 _ := ⟨hns15, jb, F.above⟩
    clear N
    have N := news0 F
    ((try (with_reducible show wpAny _ _ _ _ _ _)); (try dsimp only))
    ((repeat' (first | (k_unfold; (try dsimp only)) | (k_end; fail) | ((fail_if_success (with_reducible first | intro _ | refine st_and ?_ | refine st_ex ?_ | refine st_ex1 ?_ | refine st_eq ?_ | refine st_cr ?_ | refine st_td ?_ | refine st_tl ?_ | refine st_tt ?_ | refine st_tz ?_ | refine st_bs ?_ | refine st_ba ?_ | refine st_bp ?_ | refine st_bu ?_ | refine st_bg ?_ | refine st_sn ?_ | refine st_fo ?_ | refine st_al ?_ | refine st_ad ?_ | refine st_el ?_ | refine st_ed ?_ | refine st_cNq ?_ | refine st_cIn ?_ | refine st_cNn ?_)); first | walk1 | (dsimp only; (fail_if_success (with_reducible first | intro _ | refine st_and ?_ | refine st_ex ?_ | refine st_ex1 ?_ | refine st_eq ?_ | refine st_cr ?_ | refine st_td ?_ | refine st_tl ?_ | refine st_tt ?_ | refine st_tz ?_ | refine st_bs ?_ | refine st_ba ?_ | refine st_bp ?_ | refine st_bu ?_ | refine st_bg ?_ | refine st_sn ?_ | refine st_fo ?_ | refine st_al ?_ | refine st_ad ?_ | refine st_el ?_ | refine st_ed ?_ | refine st_cNq ?_ | refine st_cIn ?_ | refine st_cNn ?_)); walk1) | (leave1; walk_say "STEP leave1"; try dsimp only)) | fail "no step")); (try k_sweep); ((try (with_reducible rename Fr _ _ _ _ => F)); (try (with_reducible rename News _ _ _ _ => N))))
    obtain ⟨r, _, rok, rall⟩ := cells_row (h := h15) (all2_const (P := CellV h15) (ns := List.range 5) (by rw [hy2, hn5]; rfl) hy3) List.nodup_range
    refine hQ _ _ Df r (kpb_of hk jb) js ?_ ⟨rok, ys, hy1, rall⟩
    rw [← hk Df hDfs]; exact hDfn
end
theorem max_i {prog : Program} {w : World} {A : Around} {s : Shared} {c d : Int} {t u : Tok} {Q : Value → Shared → Prop} (hh : A.handled = none) (hcd : d = -1 - c)
    (h : ∀ h' tk g tg, Kp s.heap h' → 0 ≤ g → Q (.int g tg) { s with heap := h', toks := tk }) : wpAny (model prog w) A (call (.builtin "max") [.int c t, .int d u]) Q F0 s := by
  refine max_two_ints hh fun h' tk kp => ?_
  by_cases hc : d > c
  · rw [if_pos hc]; exact h h' tk _ _ kp (by omega)
  · rw [if_neg hc]; exact h h' tk _ _ kp (by omega)
section
variable {w : World} {mg mb : Str → Option Value} {A : Around} {s : Shared} {Q : Value → Shared → Prop}
set_option maxHeartbeats 4000000 in
theorem pool_call (hh : A.handled = none) (hdp : A.depth + 8 < recursionLimit) (hu : A.units + 140 < cLine) (G : G0 w mg mb s.heap) {a0 : Addr} {items : List Value} {ns : List Int} {t0 : Tok} (hL : s.heap.IsList a0 items.toArray) (hI : IntsAre items ns) (hlen : ¬ (63 : Int) < (ns.length : Int))
    (hQ : ∀ h' tk D, Kp s.heap h' → s.heap.get? D = none → SrcL h' D → Q (.ref D) { s with heap := h', toks := tk }) :
    wpAny (model PySem.Challenge.rw_xm0645_01.row.prog w) A (call (.ref 33) [.ref a0, .int 0 t0]) Q F0 s := by
  (refine wpAny_call ?_; refine call_pos_ret (by omega) ((G).K 33 _ rfl) rfl (G).T.nolimit (codeRec_of (G).K rfl) rfl (locs rfl) ?_; intro h₁ F; have X := (G).K; have T := (G).T; have N := news0 F)
  ((repeat' (first | (k_unfold; (try dsimp only)) | (k_end; fail) | ((fail_if_success (with_reducible first | refine st_if ?_ | refine st_ie ?_ | intro _ | refine st_and ?_ | refine st_ex ?_ | refine st_ex1 ?_ | refine st_eq ?_ | refine st_cr ?_ | refine st_td ?_ | refine st_tl ?_ | refine st_tt ?_ | refine st_tz ?_ | refine st_bs ?_ | refine st_ba ?_ | refine st_bp ?_ | refine st_bu ?_ | refine st_bg ?_ | refine st_sn ?_ | refine st_fo ?_ | refine st_al ?_ | refine st_ad ?_ | refine st_el ?_ | refine st_ed ?_ | refine st_cNq ?_ | refine st_cIn ?_ | refine st_cNn ?_)); first | walk1 | (dsimp only; (fail_if_success (with_reducible first | refine st_if ?_ | refine st_ie ?_ | intro _ | refine st_and ?_ | refine st_ex ?_ | refine st_ex1 ?_ | refine st_eq ?_ | refine st_cr ?_ | refine st_td ?_ | refine st_tl ?_ | refine st_tt ?_ | refine st_tz ?_ | refine st_bs ?_ | refine st_ba ?_ | refine st_bp ?_ | refine st_bu ?_ | refine st_bg ?_ | refine st_sn ?_ | refine st_fo ?_ | refine st_al ?_ | refine st_ad ?_ | refine st_el ?_ | refine st_ed ?_ | refine st_cNq ?_ | refine st_cIn ?_ | refine st_cNn ?_)); walk1) | (leave1; walk_say "STEP leave1"; try dsimp only)) | fail "no step")); (try k_sweep); ((try (with_reducible rename Fr _ _ _ _ => F)); (try (with_reducible rename News _ _ _ _ => N))))
  ((try (with_reducible show wpAny _ _ _ _ _ _)); (try dsimp only))
  k_fold
  obtain ⟨m1, hm1, F1⟩ : ∃ M, M = _ ∧ Fr s.heap s.heap.objs.size h₁ M := ⟨_, rfl, F⟩
  clear F1
  refine anyE (wpAny_mono (Q := fun v s' => ∃ h' tk' c t, v = Value.int c t ∧ s' = { s with heap := h', toks := tk' } ∧ h'.Ns s.heap.objs.size m1 ∧ Kp s.heap h') ?_ ?_ F0_mono)
  · ((repeat' (first | (k_unfold; (try dsimp only)) | (k_end; fail) | ((fail_if_success (with_reducible first | intro _ | refine st_and ?_ | refine st_ex ?_ | refine st_ex1 ?_ | refine st_eq ?_ | refine st_cr ?_ | refine st_td ?_ | refine st_tl ?_ | refine st_tt ?_ | refine st_tz ?_ | refine st_bs ?_ | refine st_ba ?_ | refine st_bp ?_ | refine st_bu ?_ | refine st_bg ?_ | refine st_sn ?_ | refine st_fo ?_ | refine st_al ?_ | refine st_ad ?_ | refine st_el ?_ | refine st_ed ?_ | refine st_cNq ?_ | refine st_cIn ?_ | refine st_cNn ?_)); first | walk1 | (dsimp only; (fail_if_success (with_reducible first | intro _ | refine st_and ?_ | refine st_ex ?_ | refine st_ex1 ?_ | refine st_eq ?_ | refine st_cr ?_ | refine st_td ?_ | refine st_tl ?_ | refine st_tt ?_ | refine st_tz ?_ | refine st_bs ?_ | refine st_ba ?_ | refine st_bp ?_ | refine st_bu ?_ | refine st_bg ?_ | refine st_sn ?_ | refine st_fo ?_ | refine st_al ?_ | refine st_ad ?_ | refine st_el ?_ | refine st_ed ?_ | refine st_cNq ?_ | refine st_cIn ?_ | refine st_cNn ?_)); walk1) | (leave1; walk_say "STEP leave1"; try dsimp only)) | fail "no step")); (try k_sweep); ((try (with_reducible rename Fr _ _ _ _ => F)); (try (with_reducible rename News _ _ _ _ => N))))
    all_goals (try k_sweep)
    all_goals ((try (with_reducible rename Fr _ _ _ _ => F)); (try (with_reducible rename News _ _ _ _ => N)))
    all_goals exact ⟨_, _, _, _, rfl, rfl, hm1 ▸ F.ns, F.keep⟩
  clear F N
  rintro v s' ⟨h2, tk2, c, t, rfl, rfl, hns2, kp2⟩
  rw [hm1] at hns2
  have F : Fr s.heap s.heap.objs.size h2 _ := ⟨hns2, kp2, Nat.le_refl _⟩
  have N := news0 F
  ((repeat' (first | (k_unfold; (try dsimp only)) | (k_end; fail) | ((fail_if_success (with_reducible first | intro _ | refine st_and ?_ | refine st_ex ?_ | refine st_ex1 ?_ | refine st_eq ?_ | refine st_cr ?_ | refine st_td ?_ | refine st_tl ?_ | refine st_tt ?_ | refine st_tz ?_ | refine st_bs ?_ | refine st_ba ?_ | refine st_bp ?_ | refine st_bu ?_ | refine st_bg ?_ | refine st_sn ?_ | refine st_fo ?_ | refine st_al ?_ | refine st_ad ?_ | refine st_el ?_ | refine st_ed ?_ | refine st_cNq ?_ | refine st_cIn ?_ | refine st_cNn ?_)); first | walk1 | (dsimp only; (fail_if_success (with_reducible first | intro _ | refine st_and ?_ | refine st_ex ?_ | refine st_ex1 ?_ | refine st_eq ?_ | refine st_cr ?_ | refine st_td ?_ | refine st_tl ?_ | refine st_tt ?_ | refine st_tz ?_ | refine st_bs ?_ | refine st_ba ?_ | refine st_bp ?_ | refine st_bu ?_ | refine st_bg ?_ | refine st_sn ?_ | refine st_fo ?_ | refine st_al ?_ | refine st_ad ?_ | refine st_el ?_ | refine st_ed ?_ | refine st_cNq ?_ | refine st_cIn ?_ | refine st_cNn ?_)); walk1) | (leave1; walk_say "STEP leave1"; try dsimp only)) | fail "no step")); (try k_sweep); ((try (with_reducible rename Fr _ _ _ _ => F)); (try (with_reducible rename News _ _ _ _ => N))))
  refine max_i hh rfl fun h3 tk3 g tg kp3 hg => ?_
  have F := F.keeps kp3
  clear N
  have N := news0 F
  ((try (with_reducible show wpAny _ _ _ _ _ _)); (try dsimp only))
  ((repeat' (first | (k_unfold; (try dsimp only)) | (k_end; fail) | ((fail_if_success (with_reducible first | intro _ | refine st_and ?_ | refine st_ex ?_ | refine st_ex1 ?_ | refine st_eq ?_ | refine st_cr ?_ | refine st_td ?_ | refine st_tl ?_ | refine st_tt ?_ | refine st_tz ?_ | refine st_bs ?_ | refine st_ba ?_ | refine st_bp ?_ | refine st_bu ?_ | refine st_bg ?_ | refine st_sn ?_ | refine st_fo ?_ | refine st_al ?_ | refine st_ad ?_ | refine st_el ?_ | refine st_ed ?_ | refine st_cNq ?_ | refine st_cIn ?_ | refine st_cNn ?_)); first | walk1 | (dsimp only; (fail_if_success (with_reducible first | intro _ | refine st_and ?_ | refine st_ex ?_ | refine st_ex1 ?_ | refine st_eq ?_ | refine st_cr ?_ | refine st_td ?_ | refine st_tl ?_ | refine st_tt ?_ | refine st_tz ?_ | refine st_bs ?_ | refine st_ba ?_ | refine st_bp ?_ | refine st_bu ?_ | refine st_bg ?_ | refine st_sn ?_ | refine st_fo ?_ | refine st_al ?_ | refine st_ad ?_ | refine st_el ?_ | refine st_ed ?_ | refine st_cNq ?_ | refine st_cIn ?_ | refine st_cNn ?_)); walk1) | (leave1; walk_say "STEP leave1"; try dsimp only)) | fail "no step")); (try k_sweep); ((try (with_reducible rename Fr _ _ _ _ => F)); (try (with_reducible rename News _ _ _ _ => N))))
  refine hQ _ _ _ F.keep (N.fresh (List.Mem.head _)) ⟨_, _, _, _, _, ?_, (fmod_in (by decide)).1, (fmod_in (by decide)).2, N.get (List.Mem.head _)⟩
  split <;> omega
end
section
open PySem PySem.W PyProof.Rows PySem.Calls PySem.Spec
section
variable {prog : Program} {w : World} {A : Around}

theorem range2_iter {s : Shared} {r : Addr} {t u v : Tok} {Q : Value → Shared → Prop} (hh : A.handled = none) (hr : IsRange s.heap r 0 2 1 t u v)
    (h : ∀ (I : Addr) (St : Nat → Heap → Prop) h', (∀ {x : Str} {px : Pos} {ev : Addr → Env}, (∀ C, (ev C).kindOf x = some .local) → (∀ C, (ev C).scope.kind = .function) →
        Iter prog w A (.Name x px) ev I 2 (· ∈ [I]) (fun b => False ∨ b ∈ [I]) St (fun i m m' => ∃ v, (∃ t, v = .int (0 + (i : Int) * 1) t) ∧ m' = upd m [(x, v)])) →
      St 0 h' → s.heap.get? I = none → I < h'.objs.size → Kp s.heap h' → Q (.ref I) { s with heap := h' }) : wpAny (model prog w) A (pyIter (.ref r)) Q F0 s := by
  refine wpAny_pyIter_range hr (by decide) ?_
  refine h _ _ _ (fun {x px ev} hl hk => Iter.name (S := fun _ => False) (g := s.heap) (Walks.range hh s.heap.objs.size 0 1 2) hl hk (fun _ q => q.elim)) ⟨Heap.get?_push_size _ rfl, fun _ _ q => q.elim⟩ (fresh_none (Nat.le_refl _)) ?_ fun _ _ e => Heap.get?_push_of_some _ e
  show s.heap.objs.size < (s.heap.push _).objs.size
  rw [Heap.size_push]; exact Nat.lt_succ_self _
theorem lc_st {T elt iter : Expr} {scope : Scope} {cl : List (Str × Addr)} {pos : Pos} {env : Env} {s₂ : Shared} {I : Addr} {n : Nat} {W RD : Nat → Prop} {St : Nat → Heap → Prop}
    {Bd : Nat → (Str → Option Value) → (Str → Option Value) → Prop} (X : Nat → Prop) (J : Heap → Prop) (P : Value → Prop) {RR : Value → Addr → Result → Shared → Prop} {N2 : Nat} (hN2 : N2 = s₂.heap.objs.size)
    (It : Iter prog w A T (fun C => compEnvC scope cl C env) I n W RD St Bd)
    (hcell : ∀ y ∈ scope.names, y.2 ≠ .cell) (hkind : scope.kind = .function) (hst : St 0 s₂.heap) (hRD : ∀ b, RD b → b < N2) (hn : n ≤ sizeLine) (hX : ∀ b, X b → b < N2) (hXRD : ∀ b, X b → ¬ RD b)
    (hJ : J s₂.heap) (Jmono : ∀ h h', (∀ b o, ¬ W b → b ≠ N2 → b ≠ N2 + 1 → h.get? b = some o → h'.get? b = some o) → J h → J h')
    (elts : ∀ i (s : Shared) m₀ m, i < n → Bd i m₀ m → s.heap.Ns (N2 + 1) m → J s.heap → (∀ b o, ¬ W b → ¬ X b → s₂.heap.get? b = some o → s.heap.get? b = some o) →
      wpAny (model prog w) A (eval elt (compEnvC scope cl (N2 + 1) env)) (fun y s' => (∃ h' tk m', s' = { s with heap := h', toks := tk } ∧ h'.Ns (N2 + 1) m' ∧ J h' ∧ (∀ b o, ¬ X b → b ≠ N2 + 1 → s.heap.get? b = some o → h'.get? b = some o)) ∧ P y) F0 s)
    (fin : ∀ h' tk m' (ys : List Value), h'.Ns (N2 + 1) m' → h'.PlainList N2 ys.toArray → ys.length = n → (∀ y ∈ ys, P y) → J h' → (∀ b o, ¬ W b → ¬ X b → s₂.heap.get? b = some o → h'.get? b = some o) →
      RR (.ref N2) (N2 + 1) (.ok .next) { s₂ with heap := h', toks := tk }) :
    wpAny (model prog w) A (newList []) (fun acc s₃ => wpAny (model prog w) A (newFunctionEnv scope env.globals cl [] env.qual none .none (some env)) (fun cenv s₄ =>
      codeAny (model prog w) A (.compStart (.ListComp elt [⟨T, iter, [], 0⟩] scope pos) 0 (.ref I) acc { cenv with scope := relabel scope env }) (RR acc cenv.locals) s₄) F0 s₃) F0 s₂ := by
  refine wpAny_newObj_type (wpAny_newFunctionEnv hcell (by intro y hy; simp at hy) (fun h₁ hns₁ hsb₁ => ?_) hkind)
  dsimp only at hns₁ hsb₁ ⊢
  generalize hH2 : s₂.heap.push { cls := .type "list", dict := none, data := .seq ([] : List Value).toArray } = H2 at hns₁ hsb₁ ⊢
  have hC : H2.objs.size = N2 + 1 := by rw [← hH2, Heap.size_push, hN2]
  rw [hC] at hns₁ hsb₁ ⊢
  rw [← hN2]
  have old : ∀ b o, s₂.heap.get? b = some o → h₁.get? b = some o := fun b o e => by
    have hb : (b : Nat) < N2 := by rw [hN2]; exact Heap.lt_size e
    exact hsb₁.extBut b o (ltN_ne hb 1) (Heap.get?_push_of_some _ (hH2 ▸ Heap.get?_push_of_some _ e))
  have below : ∀ (b : Nat) o, s₂.heap.get? b = some o → b < N2 := fun b o e => by rw [hN2]; exact Heap.lt_size e
  have hacc : h₁.PlainList N2 #[] := by
    have e0 : H2.get? N2 = some { cls := .type "list", dict := none, data := .seq ([] : List Value).toArray } := by rw [← hH2, hN2]; exact Heap.get?_push_size _ rfl
    exact ⟨_, hsb₁.extBut _ _ (Nat.ne_of_lt (Nat.lt_succ_self _)) (Heap.get?_push_of_some _ e0)⟩
  have nXC : ¬ X (N2 + 1) := fun q => absurd (hX _ q) (Nat.not_lt.mpr (Nat.le_succ _))
  have nXD : ¬ X N2 := fun q => absurd (hX _ q) (Nat.lt_irrefl _)
  have loop : ∀ s₃ : Shared, s₃ = { s₂ with heap := h₁, toks := s₂.toks + ([] : List (Str × Value)).length } →
      codeAny (model prog w) A (.compLoop (.ListComp elt [⟨T, iter, [], 0⟩] scope pos) 0 (.ref I) (.ref N2) (compEnvC scope cl (N2 + 1) env)) (RR (.ref N2) (N2 + 1)) s₃ := by
    rintro s₃ rfl
    refine comp_loop (fun k s' => ∃ h' tk i ys m', s' = { s₂ with heap := h', toks := tk } ∧ i ≤ n ∧ k = n + 1 - i ∧ St i h' ∧ h'.Ns (N2 + 1) m' ∧ h'.PlainList N2 ys.toArray ∧ ys.length = i ∧
      (∀ y ∈ ys, P y) ∧ J h' ∧ (∀ b o, ¬ W b → ¬ X b → s₂.heap.get? b = some o → h'.get? b = some o)) ?_ (n + 1)
      ⟨h₁, _, 0, [], _, rfl, Nat.zero_le _, rfl, It.frame _ _ _ hst fun b o _ e => old b o e, hns₁, hacc, rfl, (fun _ h => nomatch h), Jmono _ _ (fun b o _ _ _ e => old b o e) hJ, fun b o _ _ e => old b o e⟩
    rintro k s' ⟨h', tk, i, ys, m', rfl, hi, rfl, hst', hns', hl', hyl, ha, hj, hk⟩
    have nRDC : ¬ RD (N2 + 1) := fun q => by have := hRD _ q; omega
    have nRDD : ¬ RD N2 := fun q => by have := hRD _ q; omega
    have nWC : ¬ W (N2 + 1) := fun q => nRDC (It.sub _ q)
    have nWD : ¬ W N2 := fun q => nRDD (It.sub _ q)
    by_cases hlt : i < n
    · refine wpAny_mono (It.item i _ (N2 + 1) m' ?Q hlt hst' nRDC rfl hns' ?K) ?MM F0_mono
      case MM =>
        intro r s₁ h₁
        cases r with
        | none => exact h₁.elim
        | some v => exact h₁
      intro h₂ tk₂ m₂ hst₂ hns₂ hBd hk₂
      have hkk : ∀ b o, ¬ W b → ¬ X b → s₂.heap.get? b = some o → h₂.get? b = some o := fun b o hb hx e => hk₂ b o hb (ltN_ne (below b o e) 1) (hk b o hb hx e)
      have hl₂ : h₂.PlainList N2 ys.toArray := hl'.at fun o e => hk₂ N2 o nWD (by omega) e
      have hj₂ : J h₂ := Jmono _ _ (fun b o b1 b2 b3 e => hk₂ b o b1 b3 e) hj
      simp only [List.forIn_nil]
      refine wpAny_pure ?_
      simp only [if_true]
      refine wpAny_mono (elts i _ m' m₂ hlt hBd hns₂ hj₂ hkk) (fun y s₅ h₅ => ?_) F0_mono
      obtain ⟨⟨h₅, tk₅, m₅, rfl, hns₅, hj₅, kp5⟩, hP⟩ := h₅
      have kp5' : ∀ b o, ¬ X b → b ≠ N2 + 1 → h₂.get? b = some o → h₅.get? b = some o := kp5
      have hl₅ : h₅.PlainList N2 ys.toArray := hl₂.at fun o e => kp5' _ o nXD (by omega) e
      refine wpAny_list_append_plain hl₅ (fun h₆ hl₆ hs₆ => ?_) (by rw [List.size_toArray]; omega)
      have sb : ∀ b o, b ≠ N2 → h₅.get? b = some o → h₆.get? b = some o := fun b o hb e => hs₆.extBut b o hb e
      refine ⟨n + 1 - (i + 1), by omega, h₆, tk₅, i + 1, ys ++ [y], m₅, rfl, hlt, rfl, ?_, ?_, by simpa using hl₆, by simp; omega, ?_, ?_, ?_⟩
      · exact It.frame _ _ _ hst₂ fun b o hb e => sb b o (fun q => nRDD (q ▸ hb)) (kp5' b o (fun q => hXRD b q hb) (fun q => nRDC (q ▸ hb)) e)
      · exact hns₅.at' fun o e => sb _ o (by omega) e
      · intro x hx
        rcases List.mem_append.mp hx with hx | hx
        · exact ha x hx
        · rw [List.mem_singleton.mp hx]; exact hP
      · exact Jmono _ _ (fun b o _ b2 _ e => sb b o b2 e) hj₅
      · exact fun b o hb hx e => sb b o (ltN_ne (below b o e) 0) (kp5' b o hx (ltN_ne (below b o e) 1) (hkk b o hb hx e))
    · have hi' : i = n := by omega
      subst hi'
      refine It.done _ _ hst' fun h₂ tk₂ hk₂ => ?_
      exact fin h₂ tk₂ m' ys (hns'.at' fun o e => hk₂ _ o nWC e) (hl'.at fun o e => hk₂ _ o nWD e) hyl ha (Jmono _ _ (fun b o b1 _ _ e => hk₂ b o b1 e) hj) fun b o hb hx e => hk₂ b o hb (hk b o hb hx e)
  refine codeAny_compStart_list (loop _ rfl) ?_
  refine wpAny_mono (It.self _ (fun it' s' => codeAny (model prog w) A (.compLoop (.ListComp elt [⟨T, iter, [], 0⟩] scope pos) 0 it' (.ref N2) (compEnvC scope cl (N2 + 1) env)) (RR (.ref N2) (N2 + 1)) s')
    (It.frame _ _ _ hst fun b o _ e => old b o e) (loop _ rfl)) (fun _ _ x => x) F0_mono

theorem lc_stv {T elt iter : Expr} {scope : Scope} {cl : List (Str × Addr)} {pos : Pos} {env : Env} {s : Shared} {Q : Value → Shared → Prop}
    (h : wpAny (model prog w) A (eval iter env) (fun x s₁ => wpAny (model prog w) A (pyIter x) (fun it s₂ =>
      ∃ (I : Addr) (n : Nat) (W RD : Nat → Prop) (St : Nat → Heap → Prop) (Bd : Nat → (Str → Option Value) → (Str → Option Value) → Prop) (X : Nat → Prop) (J : Heap → Prop) (P : Value → Prop),
      it = .ref I ∧ Iter prog w A T (fun C => compEnvC scope cl C env) I n W RD St Bd ∧ St 0 s₂.heap ∧ (∀ b, RD b → b < s₂.heap.objs.size) ∧ n ≤ sizeLine ∧ (∀ b, X b → b < s₂.heap.objs.size) ∧ (∀ b, X b → ¬ RD b) ∧ J s₂.heap ∧
      (∀ h h', (∀ b o, ¬ W b → b ≠ s₂.heap.objs.size → b ≠ s₂.heap.objs.size + 1 → h.get? b = some o → h'.get? b = some o) → J h → J h') ∧
      (∀ i (s : Shared) m₀ m, i < n → Bd i m₀ m → s.heap.Ns (s₂.heap.objs.size + 1) m → J s.heap → (∀ b o, ¬ W b → ¬ X b → s₂.heap.get? b = some o → s.heap.get? b = some o) →
        wpAny (model prog w) A (eval elt (compEnvC scope cl (s₂.heap.objs.size + 1) env)) (fun y s' => (∃ h' tk m', s' = { s with heap := h', toks := tk } ∧ h'.Ns (s₂.heap.objs.size + 1) m' ∧ J h' ∧ (∀ b o, ¬ X b → b ≠ s₂.heap.objs.size + 1 → s.heap.get? b = some o → h'.get? b = some o)) ∧ P y) F0 s) ∧
      (∀ h' tk (ys : List Value) D, D = s₂.heap.objs.size → h'.PlainList D ys.toArray → ys.length = n → (∀ y ∈ ys, P y) → J h' → (∀ b o, ¬ W b → ¬ X b → s₂.heap.get? b = some o → h'.get? b = some o) → Q (.ref D) { s₂ with heap := h', toks := tk })) F0 s₁) F0 s)
    (hclos : closureFor scope env = pure cl) (hcell : ∀ y ∈ scope.names, y.2 ≠ .cell) (hkind : scope.kind = .function) (hnames : ∀ x ∈ scope.names, x.2 = .local → scope.names.lookup x.1 = some .local)
    (hs : ∀ x, foldedSetIterable iter env x = pure x := by intro _; rfl) :
    wpAny (model prog w) A (eval (.ListComp elt [⟨T, iter, [], 0⟩] scope pos) env) Q F0 s := by
  rw [eval_ListComp]
  refine wpAny_comprehension_free rfl hs hclos hkind hnames ?_
  refine wpAny_mono h (fun x s₁ h₁ => wpAny_mono h₁ (fun it s₂ h₂ => ?_) F0_mono) F0_mono
  obtain ⟨I, n, W, RD, St, Bd, X, J, P, rfl, It, hst, hRD, hn, hX, hXRD, hJ, Jmono, elts, fin⟩ := h₂
  refine lc_st X J P rfl It hcell hkind hst hRD hn hX hXRD hJ Jmono elts ?_
  intro h' tk m' ys hns hpl hlen hall hj hk
  refine ⟨m', hns, fun h'' hs'' => ?_⟩
  refine fin h'' tk ys _ rfl (hpl.at fun o e => hs''.extBut _ _ (Nat.ne_of_lt (Nat.lt_succ_self _)) e) hlen hall (Jmono _ _ (fun b o _ _ b3 e => hs''.extBut b o b3 e) hj)
    fun b o hb hx e => hs''.extBut b o (Nat.ne_of_lt (Nat.lt_trans (Heap.lt_size e) (Nat.lt_succ_self _))) (hk b o hb hx e)
end
end
theorem new_list {M : Model} {A : Around} {E : Value → Shared → Prop} {s : Shared} {Q : Value → Shared → Prop} {vs : List Value} (h : Q (.ref s.heap.objs.size) { s with heap := s.heap.push (W.listOf vs.toArray 0) }) (hsz : vs.length ≤ sizeLine) : wpAny M A (newList vs) Q E s :=
  wpAny_newObj_type h (by show vs.toArray.size ≤ sizeLine; rw [List.size_toArray]; exact hsz)
def Row1 (S : Nat → Prop) (h : Heap) (v : Value) (x : Str) : Prop := ∃ p q t u, v = .ref p ∧ S p ∧ S q ∧ h.PlainList p [.ref q, .none, .none, .none, .none].toArray ∧ IsTup h q [.str "a" t, .str x u].toArray
theorem row1_ok : RelOk Row1 := by
  rintro S h h' v x hk ⟨p, q, t, u, rfl, hp, hq, ⟨n, e⟩, o, ho, r⟩
  exact ⟨p, q, t, u, rfl, hp, hq, ⟨n, hk _ _ hp e⟩, o, hk _ _ hq ho, r⟩
def oneRow (x : Str) : Row := fun i => if i = 0 then some ("a", x) else none
theorem row1_row {S : Nat → Prop} {h : Heap} {v : Value} {x : Str} (r : Row1 S h v x) (hx : PyData.strOk x = true) : ∃ p, v = .ref p ∧ RowL h p (oneRow x) := by
  obtain ⟨p, q, t, u, rfl, _, _, hp, hq⟩ := r
  refine ⟨p, rfl, ?_, _, hp, ?_⟩
  · intro i c e
    unfold oneRow at e
    by_cases hi : i = 0
    · rw [if_pos hi] at e; cases e; exact ⟨show PyData.strOk ("a" : Str) = true by decide +kernel, hx⟩
    · rw [if_neg hi] at e; cases e
  · exact .cons (Rd.of_tup trivial hq (.cons (.str _ _) (.cons (.str _ _) .nil))) (.cons .none (.cons .none (.cons .none (.cons .none .nil))))

theorem RowL.past {h h' : Heap} {L l : Addr} {m : Str → Option Value} {r : Row} (x : RowL h l r) (hn : h.Ns L m) (bk : ∀ b o, b ≠ L → h.get? b = some o → h'.get? b = some o) : RowL h' l r :=
  let ⟨ok, ys, hp, ha⟩ := x; ⟨ok, ys, hp.at fun o e => bk _ o (pl_ne_ns hn hp) e, ha.mono fun _ _ q => q.past hn bk⟩
theorem RowL.ne_src {h : Heap} {l src : Addr} {r : Row} (x : RowL h l r) (hs : SrcL h src) : l ≠ src := by
  rintro rfl
  obtain ⟨_, ys, ⟨k, e⟩, ha⟩ := x
  obtain ⟨a, b, u, v, n, _, _, _, e2⟩ := hs
  have h5 : ys.length = 5 := ha.length
  rw [e] at e2
  have hz : ys.toArray.size = 2 := congrArg (fun o : Option Obj => match o with | some o => (match o.data with | .seq vs _ => vs.size | _ => 0) | none => 0) e2
  simp at hz; omega
theorem pl_ne_src2 {h : Heap} {l src p : Addr} {vs : List Value} (hl : h.PlainList l (Value.ref p :: vs).toArray) (hs : SrcL h src) : l ≠ src := by
  rintro rfl
  obtain ⟨k, e⟩ := hl
  obtain ⟨a, b, u, v, n, _, _, _, e2⟩ := hs
  rw [e] at e2
  simp [W.listOf] at e2
theorem set_plain {prog : Program} {w : World} {A : Around} {E : Value → Shared → Prop} {s : Shared} {l : Addr} {vs : List Value} {k : Int} {t : Tok} {v : Value} {Q : Unit → Shared → Prop} (hl : s.heap.PlainList l vs.toArray) (h0 : 0 ≤ k) (hfit : k < 2 ^ 63) (hn : k < vs.length)
    (hQ : ∀ h', h'.PlainList l (vs.set k.toNat v).toArray → Heap.SameBut l s.heap h' → Q () { s with heap := h' }) : wpAny (model prog w) A (setItem (.ref l) (.int k t) v) Q E s := by
  obtain ⟨n, e⟩ := hl
  refine ki_setAt (n := n) e h0 hfit (by simpa using hn) (hQ _ ⟨n, ?_⟩ (Heap.SameBut.update ..))
  rw [Heap.get?_update_self _ e rfl]
  simp [W.listOf, Obj.mapSeq]
theorem tq_kpb {h h' : Heap} {src : Addr} (hs : SrcL h src) (kb : KpB src h h') : Tq h h' :=
  Tq.of_but (X := (· = src)) (fun b o q e => kb b o q e) (fun b o vs n q e hc hd => by subst q; obtain ⟨us, n, e2⟩ := src_list hs; rw [e2] at e; cases e; simp at hc)
theorem RowL.kpb {h h' : Heap} {l src : Addr} {r : Row} (x : RowL h l r) (hs : SrcL h src) (kb : KpB src h h') : RowL h' l r := by
  have hne := x.ne_src hs
  obtain ⟨ok, ys, hp, ha⟩ := x
  exact ⟨ok, ys, hp.at fun o e => kb _ o hne e, ha.mono fun _ _ q => q.tq (tq_kpb hs kb)⟩

theorem RowL.ne_two {h : Heap} {l D : Addr} {r : Row} {a b : Value} (x : RowL h l r) (hD : h.PlainList D [a, b].toArray) : l ≠ D := by
  rintro rfl
  obtain ⟨_, ys, ⟨k, e⟩, ha⟩ := x
  obtain ⟨n, e2⟩ := hD
  have h5 : ys.length = 5 := ha.length
  rw [e] at e2
  have hz : ys.toArray.size = 2 := congrArg (fun o : Option Obj => match o with | some o => (match o.data with | .seq vs _ => vs.size | _ => 0) | none => 0) e2
  simp at hz; omega
theorem RowL.but {h h' : Heap} {l D : Addr} {r : Row} {a b : Value} (x : RowL h l r) (hD : h.PlainList D [a, b].toArray) (hk : ∀ b o, b ≠ D → h.get? b = some o → h'.get? b = some o) : RowL h' l r := by
  have hne := x.ne_two hD
  obtain ⟨ok, ys, hp, ha⟩ := x
  refine ⟨ok, ys, hp.at fun o e => hk _ o hne e, ha.mono fun _ _ q => q.tq (Tq.of_but (X := (· = D)) (fun b o q e => hk b o q e) fun b o vs n q e hc hd => ?_)⟩
  subst q
  obtain ⟨k, e2⟩ := hD
  rw [e2] at e; cases e; simp at hc
theorem good_true {s₀ s : Shared} {ns : List Int} {h' : Heap} {tk : Nat} {L : Addr} {m : Str → Option Value} (hg : s.gens = #[]) (F : Fr s.heap L h' m) :
    GoodW PySem.Challenge.rw_xm0645_01.row.claim (classAt s₀.heap) (ExcName.means s₀.heap) [ofPy (PyData.list (List.map PyData.int ns))] s (Except.ok (Flow.ret (Value.bool true))) { s with heap := h', toks := tk } := by
  wrow_close

set_option maxHeartbeats 4000000 in
theorem law_holds : PySem.Challenge.rw_xm0645_01.Holds := hd (by
  k_go0
  rename_i w s₀ s mg mb G Y fa o pm doc ho hg KX X V GL T B TE TW w10 w9 M w8 w7 hcd ns hs hlay0 hL1 hr1 hl2 w5 w4 a0 items w1 hL ra w1' r0 hI hr hc1 hc2 K0 hD h₁ tk₁ F oc hoc N X0
  clear X0 hD K0 hc2 hr r0 w1' ra hl2 hr1 hlay0 hcd M TE TW B GL V X Y ho
  have G1 : G0 w mg mb s.heap := ⟨KX, ⟨T.g, T.b, T.nolimit, T.builtins, T.free⟩⟩
  clear G T
  have T := G1.T
  have X := G1.K
  have F : Fr s.heap s.heap.objs.size h₁ (fun y => if y = "script" then some (.ref a0) else none) := F
  have hoc : oc.data = .cell none := hoc
  have hh : ∀ e, (callerA.deeper e).handled = none := fun _ => rfl
  have hdp : callerA.depth + 20 < recursionLimit := by decide
  have hu : callerA.units + 400 < cLine := by decide
  dsimp only
  clear w5 w4 w1
  ((try (with_reducible show wpAny _ _ _ _ _ _)); (try dsimp only))
  k_fold
  ((repeat' (first | (k_unfold; (try dsimp only)) | (k_end; fail) | ((fail_if_success (with_reducible first | intro _ | refine st_and ?_ | refine st_ex ?_ | refine st_ex1 ?_ | refine st_eq ?_ | refine st_cr ?_ | refine st_td ?_ | refine st_tl ?_ | refine st_tt ?_ | refine st_tz ?_ | refine st_bs ?_ | refine st_ba ?_ | refine st_bp ?_ | refine st_bu ?_ | refine st_bg ?_ | refine st_sn ?_ | refine st_fo ?_ | refine st_al ?_ | refine st_ad ?_ | refine st_el ?_ | refine st_ed ?_ | refine st_cNq ?_ | refine st_cIn ?_ | refine st_cNn ?_)); first | walk1 | (dsimp only; (fail_if_success (with_reducible first | intro _ | refine st_and ?_ | refine st_ex ?_ | refine st_ex1 ?_ | refine st_eq ?_ | refine st_cr ?_ | refine st_td ?_ | refine st_tl ?_ | refine st_tt ?_ | refine st_tz ?_ | refine st_bs ?_ | refine st_ba ?_ | refine st_bp ?_ | refine st_bu ?_ | refine st_bg ?_ | refine st_sn ?_ | refine st_fo ?_ | refine st_al ?_ | refine st_ad ?_ | refine st_el ?_ | refine st_ed ?_ | refine st_cNq ?_ | refine st_cIn ?_ | refine st_cNn ?_)); walk1) | (leave1; walk_say "STEP leave1"; try dsimp only)) | fail "no step")); (try k_sweep); ((try (with_reducible rename Fr _ _ _ _ => F)); (try (with_reducible rename News _ _ _ _ => N))))
  ((try (with_reducible show wpAny _ _ _ _ _ _)); (try dsimp only))
  k_fold
  refine anyE (lc_asg (hclos := closureFor_none (by decide)) ?_ rfl (by decide) rfl (by decide) rfl rfl)
  ((repeat' (first | (k_unfold; (try dsimp only)) | (k_end; fail) | ((fail_if_success (with_reducible first | intro _ | refine st_and ?_ | refine st_ex ?_ | refine st_ex1 ?_ | refine st_eq ?_ | refine st_cr ?_ | refine st_td ?_ | refine st_tl ?_ | refine st_tt ?_ | refine st_tz ?_ | refine st_bs ?_ | refine st_ba ?_ | refine st_bp ?_ | refine st_bu ?_ | refine st_bg ?_ | refine st_sn ?_ | refine st_fo ?_ | refine st_al ?_ | refine st_ad ?_ | refine st_el ?_ | refine st_ed ?_ | refine st_cNq ?_ | refine st_cIn ?_ | refine st_cNn ?_)); first | walk1 | (dsimp only; (fail_if_success (with_reducible first | intro _ | refine st_and ?_ | refine st_ex ?_ | refine st_ex1 ?_ | refine st_eq ?_ | refine st_cr ?_ | refine st_td ?_ | refine st_tl ?_ | refine st_tt ?_ | refine st_tz ?_ | refine st_bs ?_ | refine st_ba ?_ | refine st_bp ?_ | refine st_bu ?_ | refine st_bg ?_ | refine st_sn ?_ | refine st_fo ?_ | refine st_al ?_ | refine st_ad ?_ | refine st_el ?_ | refine st_ed ?_ | refine st_cNq ?_ | refine st_cIn ?_ | refine st_cNn ?_)); walk1) | (leave1; walk_say "STEP leave1"; try dsimp only)) | fail "no step")); (try k_sweep); ((try (with_reducible rename Fr _ _ _ _ => F)); (try (with_reducible rename News _ _ _ _ => N))))
  rename_i D1 h2 lt2
  have hl2 : ∃ t u, h2.PlainList D1 [.str "1" t, .str "2" u].toArray := ⟨_, _, plN N (List.Mem.head _)⟩
  obtain ⟨t1, u1, hl2⟩ := hl2
  refine ⟨[Value.str "1" t1, Value.str "2" u1].length, BT ["worth"] (fun i ws => ∃ v, [Value.str "1" t1, Value.str "2" u1][i]? = some v ∧ ws = [v]), Str, fun i => some (if i = 0 then "1" else "2"), Row1, _, _, F.ns, drawn_name (vs := [Value.str "1" t1, Value.str "2" u1]) (hh _) (.inl hl2.isList) ?_ ?_, by rw [sizeLine_eq]; simp, row1_ok, ?_, ?_, ?_⟩
  · intro C; rfl
  · intro C; rfl
  · exact tests_nil fun _ _ => rfl
  · rintro i x s' m₀ mm C S hi hdd ⟨ws, ⟨v, hv, rfl⟩, _, rfl⟩ hns hkp hC hS
    have nsM : NsM := ⟨⟩
    (try dsimp only)
    ((repeat' (first | (k_unfold; (try dsimp only)) | (k_end; fail) | ((fail_if_success (with_reducible first | intro _ | refine st_and ?_ | refine st_ex ?_ | refine st_ex1 ?_ | refine st_eq ?_ | refine st_cr ?_ | refine st_td ?_ | refine st_tl ?_ | refine st_tt ?_ | refine st_tz ?_ | refine st_bs ?_ | refine st_ba ?_ | refine st_bp ?_ | refine st_bu ?_ | refine st_bg ?_ | refine st_sn ?_ | refine st_fo ?_ | refine st_al ?_ | refine st_ad ?_ | refine st_el ?_ | refine st_ed ?_ | refine st_cNq ?_ | refine st_cIn ?_ | refine st_cNn ?_)); first | walk1 | (dsimp only; (fail_if_success (with_reducible first | intro _ | refine st_and ?_ | refine st_ex ?_ | refine st_ex1 ?_ | refine st_eq ?_ | refine st_cr ?_ | refine st_td ?_ | refine st_tl ?_ | refine st_tt ?_ | refine st_tz ?_ | refine st_bs ?_ | refine st_ba ?_ | refine st_bp ?_ | refine st_bu ?_ | refine st_bg ?_ | refine st_sn ?_ | refine st_fo ?_ | refine st_al ?_ | refine st_ad ?_ | refine st_el ?_ | refine st_ed ?_ | refine st_cNq ?_ | refine st_cIn ?_ | refine st_cNn ?_)); walk1) | (leave1; walk_say "STEP leave1"; try dsimp only)) | fail "no step")); (try k_sweep); ((try (with_reducible rename Fr _ _ _ _ => F)); (try (with_reducible rename News _ _ _ _ => N))))
    refine new_list ?_ (by rw [sizeLine_eq]; simp)
    have hlt : C < s'.heap.objs.size := hns.lt
    have hx : ∃ u, v = .str x u := by
      have hi2 : i < 2 := hi
      match i, hi2 with
      | 0, _ => simp at hdd hv; subst hdd hv; exact ⟨_, rfl⟩
      | 1, _ => simp at hdd hv; subst hdd hv; exact ⟨_, rfl⟩
    obtain ⟨u, rfl⟩ := hx
    refine ⟨⟨_, _, rfl, fun b o e => Heap.get?_push_of_some _ (Heap.get?_push_of_some _ e)⟩, _, s'.heap.objs.size, _, _, rfl, hC _ ?_, hC _ hlt, ⟨0, Heap.get?_push_size _ rfl⟩, ⟨_, Heap.get?_push_of_some _ (Heap.get?_push_size _ rfl), rfl, _, rfl⟩⟩
    show C < (s'.heap.push _).objs.size
    rw [Heap.size_push]; exact Nat.lt_succ_of_lt hlt
  · intro h3 tk3 ys D3 S hD3 hpl3 hall3 hns3 hk3
    obtain ⟨p1, p2, rfl, hr1, hr2⟩ : ∃ p1 p2, ys = [.ref p1, .ref p2] ∧ RowL h3 p1 (oneRow "1") ∧ RowL h3 p2 (oneRow "2") := by
      have hall3 : All2 (Row1 S h3) ys ["1", "2"] := hall3
      cases hall3 with
      | cons q1 r => cases r with
        | cons q2 r => cases r with
          | nil =>
            obtain ⟨p1, rfl, h1⟩ := row1_row q1 (by decide +kernel)
            obtain ⟨p2, rfl, h2⟩ := row1_row q2 (by decide +kernel)
            exact ⟨p1, p2, rfl, h1, h2⟩
    have hc2 := N.get (List.Mem.tail _ (List.Mem.head _))
    have hc3 : h3.get? (s.heap.objs.size + 1) = some oc := hk3 _ _ (Nat.succ_ne_self _) hc2
    have hcn : s.heap.get? (s.heap.objs.size + 1) = none := fresh_none (Nat.le_succ _)
    have F := but_Fr F hns3 hk3
    clear N
    obtain ⟨nl, N, back⟩ := all_news F
    ((try (with_reducible show wpAny _ _ _ _ _ _)); (try dsimp only))
    ((repeat' (first | (k_unfold; (try dsimp only)) | (k_end; fail) | ((fail_if_success (with_reducible first | intro _ | refine st_and ?_ | refine st_ex ?_ | refine st_ex1 ?_ | refine st_eq ?_ | refine st_cr ?_ | refine st_td ?_ | refine st_tl ?_ | refine st_tt ?_ | refine st_tz ?_ | refine st_bs ?_ | refine st_ba ?_ | refine st_bp ?_ | refine st_bu ?_ | refine st_bg ?_ | refine st_sn ?_ | refine st_fo ?_ | refine st_al ?_ | refine st_ad ?_ | refine st_el ?_ | refine st_ed ?_ | refine st_cNq ?_ | refine st_cIn ?_ | refine st_cNn ?_)); first | walk1 | (dsimp only; (fail_if_success (with_reducible first | intro _ | refine st_and ?_ | refine st_ex ?_ | refine st_ex1 ?_ | refine st_eq ?_ | refine st_cr ?_ | refine st_td ?_ | refine st_tl ?_ | refine st_tt ?_ | refine st_tz ?_ | refine st_bs ?_ | refine st_ba ?_ | refine st_bp ?_ | refine st_bu ?_ | refine st_bg ?_ | refine st_sn ?_ | refine st_fo ?_ | refine st_al ?_ | refine st_ad ?_ | refine st_el ?_ | refine st_ed ?_ | refine st_cNq ?_ | refine st_cIn ?_ | refine st_cNn ?_)); walk1) | (leave1; walk_say "STEP leave1"; try dsimp only)) | fail "no step")); (try k_sweep); ((try (with_reducible rename Fr _ _ _ _ => F)); (try (with_reducible rename News _ _ _ _ => N))))
    rename_i Dw h4 lt4
    have bk := back F N (fun p hp => List.Mem.tail _ hp)
    have hr1 := hr1.past hns3 bk
    have hr2 := hr2.past hns3 bk
    have hc4 := bk _ _ (Nat.succ_ne_self _) hc3
    have hpl4 := hpl3.at fun o e => bk _ o (pl_ne_ns hns3 hpl3) e
    have hw4 : ∃ a b, h4.PlainList Dw [.str "" a, .str "" b].toArray := ⟨_, _, plN N (List.Mem.head _)⟩
    obtain ⟨wa, wb, hw4⟩ := hw4
    refine ⟨fun a o e => F.keep _ _ (X a o e), ?_⟩
    ((try (with_reducible show wpAny _ _ _ _ _ _)); (try dsimp only))
    k_fold
    refine anyE (right_call (mg := mg) (mb := mb) (hh _) ?hd ?hu ?hG hw4 hpl4 hr1 hr2 ?_)
    case hd => rw [depth_deeper]; omega
    case hu => rw [units_deeper]; omega
    case hG => exact G1.keep F.keep
    intro h5 tk5 kp5
    have hc5 := kp5 _ _ hc4
    have F := F.keeps kp5
    clear N back bk
    obtain ⟨nl, N, back⟩ := all_news F
    have hns5 := F.ns
    ((try (with_reducible show wpAny _ _ _ _ _ _)); (try dsimp only))
    ((repeat' (first | (k_unfold; (try dsimp only)) | (k_end; fail) | ((fail_if_success (with_reducible first | intro _ | refine st_and ?_ | refine st_ex ?_ | refine st_ex1 ?_ | refine st_eq ?_ | refine st_cr ?_ | refine st_td ?_ | refine st_tl ?_ | refine st_tt ?_ | refine st_tz ?_ | refine st_bs ?_ | refine st_ba ?_ | refine st_bp ?_ | refine st_bu ?_ | refine st_bg ?_ | refine st_sn ?_ | refine st_fo ?_ | refine st_al ?_ | refine st_ad ?_ | refine st_el ?_ | refine st_ed ?_ | refine st_cNq ?_ | refine st_cIn ?_ | refine st_cNn ?_)); first | walk1 | (dsimp only; (fail_if_success (with_reducible first | intro _ | refine st_and ?_ | refine st_ex ?_ | refine st_ex1 ?_ | refine st_eq ?_ | refine st_cr ?_ | refine st_td ?_ | refine st_tl ?_ | refine st_tt ?_ | refine st_tz ?_ | refine st_bs ?_ | refine st_ba ?_ | refine st_bp ?_ | refine st_bu ?_ | refine st_bg ?_ | refine st_sn ?_ | refine st_fo ?_ | refine st_al ?_ | refine st_ad ?_ | refine st_el ?_ | refine st_ed ?_ | refine st_cNq ?_ | refine st_cIn ?_ | refine st_cNn ?_)); walk1) | (leave1; walk_say "STEP leave1"; try dsimp only)) | fail "no step")); (try k_sweep); ((try (with_reducible rename Fr _ _ _ _ => F)); (try (with_reducible rename News _ _ _ _ => N))))
    refine ⟨fun a o e => F.keep _ _ (X a o e), ?_⟩
    ((try (with_reducible show wpAny _ _ _ _ _ _)); (try dsimp only))
    k_fold
    refine anyE (pool_call (mg := mg) (mb := mb) (hh _) ?hd ?hu ?hG (items := items) (ns := ns) (hL.at fun o e => F.keep _ o e) hI (by simpa using hc1) ?_)
    case hd => rw [depth_deeper]; omega
    case hu => rw [units_deeper]; omega
    case hG => exact G1.keep F.keep
    intro h6 tk6 src kp6 hs0 hsrc6
    have hsn : s.heap.get? src = none := by
      cases e : s.heap.get? src with
      | none => rfl
      | some o => have e' := F.keep _ _ e; rw [show h5.get? src = none from hs0] at e'; cases e'
    have hc6 := kp6 _ _ hc5
    have F := F.keeps kp6
    have hsL : s.heap.objs.size ≠ src := fun z => by
      obtain ⟨_, _, e⟩ := src_list hsrc6
      exact src_ne_ns F.ns e z.symm
    have hcs : s.heap.objs.size + 1 ≠ src := fun z => by
      obtain ⟨_, _, e⟩ := src_list hsrc6
      rw [← z, hc6] at e; cases e; cases hoc
    clear N back
    have N := news0 F
    ((try (with_reducible show wpAny _ _ _ _ _ _)); (try dsimp only))
    ((repeat' (first | (k_unfold; (try dsimp only)) | (k_end; fail) | ((fail_if_success (with_reducible first | intro _ | refine st_and ?_ | refine st_ex ?_ | refine st_ex1 ?_ | refine st_eq ?_ | refine st_cr ?_ | refine st_td ?_ | refine st_tl ?_ | refine st_tt ?_ | refine st_tz ?_ | refine st_bs ?_ | refine st_ba ?_ | refine st_bp ?_ | refine st_bu ?_ | refine st_bg ?_ | refine st_sn ?_ | refine st_fo ?_ | refine st_al ?_ | refine st_ad ?_ | refine st_el ?_ | refine st_ed ?_ | refine st_cNq ?_ | refine st_cIn ?_ | refine st_cNn ?_)); first | walk1 | (dsimp only; (fail_if_success (with_reducible first | intro _ | refine st_and ?_ | refine st_ex ?_ | refine st_ex1 ?_ | refine st_eq ?_ | refine st_cr ?_ | refine st_td ?_ | refine st_tl ?_ | refine st_tt ?_ | refine st_tz ?_ | refine st_bs ?_ | refine st_ba ?_ | refine st_bp ?_ | refine st_bu ?_ | refine st_bg ?_ | refine st_sn ?_ | refine st_fo ?_ | refine st_al ?_ | refine st_ad ?_ | refine st_el ?_ | refine st_ed ?_ | refine st_cNq ?_ | refine st_cIn ?_ | refine st_cNn ?_)); walk1) | (leave1; walk_say "STEP leave1"; try dsimp only)) | fail "no step")); (try k_sweep); ((try (with_reducible rename Fr _ _ _ _ => F)); (try (with_reducible rename News _ _ _ _ => N))))
    ((try (with_reducible show wpAny _ _ _ _ _ _)); (try dsimp only))
    refine wpAny_storeName_cell rfl rfl rfl ⟨oc, hc6, hoc⟩ fun h7 hv7 hs7 => ?_
    obtain ⟨oc7, hc7, hoc7⟩ := hv7
    have hk7 : ∀ b o, b ≠ s.heap.objs.size + 1 → h6.get? b = some o → h7.get? b = some o := fun b o hb e => hs7.extBut b o hb e
    have F := but_Fr' F (Nat.succ_ne_self _) hcn hk7
    have hs7 : SrcL h7 src := src_bk hsrc6 hk7 hcs
    clear N
    obtain ⟨nl, N0, back⟩ := all_news F
    have N := news_cons N0 hc7 (Nat.succ_ne_self _) hcn
    ((try (with_reducible show wpAny _ _ _ _ _ _)); (try dsimp only))
    ((repeat' (first | (k_unfold; (try dsimp only)) | (k_end; fail) | ((fail_if_success (with_reducible first | intro _ | refine st_and ?_ | refine st_ex ?_ | refine st_ex1 ?_ | refine st_eq ?_ | refine st_cr ?_ | refine st_td ?_ | refine st_tl ?_ | refine st_tt ?_ | refine st_tz ?_ | refine st_bs ?_ | refine st_ba ?_ | refine st_bp ?_ | refine st_bu ?_ | refine st_bg ?_ | refine st_sn ?_ | refine st_fo ?_ | refine st_al ?_ | refine st_ad ?_ | refine st_el ?_ | refine st_ed ?_ | refine st_cNq ?_ | refine st_cIn ?_ | refine st_cNn ?_)); first | walk1 | (dsimp only; (fail_if_success (with_reducible first | intro _ | refine st_and ?_ | refine st_ex ?_ | refine st_ex1 ?_ | refine st_eq ?_ | refine st_cr ?_ | refine st_td ?_ | refine st_tl ?_ | refine st_tt ?_ | refine st_tz ?_ | refine st_bs ?_ | refine st_ba ?_ | refine st_bp ?_ | refine st_bu ?_ | refine st_bg ?_ | refine st_sn ?_ | refine st_fo ?_ | refine st_al ?_ | refine st_ad ?_ | refine st_el ?_ | refine st_ed ?_ | refine st_cNq ?_ | refine st_cIn ?_ | refine st_cNn ?_)); walk1) | (leave1; walk_say "STEP leave1"; try dsimp only)) | fail "no step")); (try k_sweep); ((try (with_reducible rename Fr _ _ _ _ => F)); (try (with_reducible rename News _ _ _ _ => N))))
    rename_i D8 h8 lt8
    have bk := back F N (fun p hp => List.Mem.tail _ (List.Mem.tail _ hp))
    have hs8 := src_bk hs7 bk hsL
    have hc8 := bk _ _ (Nat.succ_ne_self _) hc7
    have hl8 : ∃ a b c d, h8.PlainList D8 [.str "element" a, .str "element" b, .str "text" c, .str "comment" d].toArray := ⟨_, _, _, _, plN N (List.Mem.head _)⟩
    obtain ⟨ka, kb, kc, kd0, hl8⟩ := hl8
    refine ⟨fun a o e => F.keep _ _ (X a o e), ?_⟩
    ((try (with_reducible show wpAny _ _ _ _ _ _)); (try dsimp only))
    k_fold
    refine anyE (one_call (mg := mg) (mb := mb) (src := src) (l := D8) (vs := [.str "element" ka, .str "element" kb, .str "text" kc, .str "comment" kd0]) ?hd ?hu ?hg hs8 hl8 (pl_ne_src (vs := [_, _, _]) hl8 hs8) (by simp) (by simp) ?_)
    case hd => rw [depth_deeper]; omega
    case hu => rw [units_deeper]; omega
    case hg => exact ⟨s.heap, G1, F.keep, hsn⟩
    intro h9 tk9 v9 kb9 hs9 hv9
    obtain ⟨kd, tkd, rfl⟩ : ∃ x t, v9 = .str x t := by
      simp at hv9
      rcases hv9 with rfl | rfl | rfl | rfl <;> exact ⟨_, _, rfl⟩
    have hc9 := kb9 _ _ hcs hc8
    have F := fr_kpb F hsn hsL kb9
    clear N back bk
    obtain ⟨nl, N0, back⟩ := all_news F
    have N := news_cons N0 hc9 (Nat.succ_ne_self _) hcn
    ((try (with_reducible show wpAny _ _ _ _ _ _)); (try dsimp only))
    ((repeat' (first | (k_unfold; (try dsimp only)) | (k_end; fail) | ((fail_if_success (with_reducible first | intro _ | refine st_and ?_ | refine st_ex ?_ | refine st_ex1 ?_ | refine st_eq ?_ | refine st_cr ?_ | refine st_td ?_ | refine st_tl ?_ | refine st_tt ?_ | refine st_tz ?_ | refine st_bs ?_ | refine st_ba ?_ | refine st_bp ?_ | refine st_bu ?_ | refine st_bg ?_ | refine st_sn ?_ | refine st_fo ?_ | refine st_al ?_ | refine st_ad ?_ | refine st_el ?_ | refine st_ed ?_ | refine st_cNq ?_ | refine st_cIn ?_ | refine st_cNn ?_)); first | walk1 | (dsimp only; (fail_if_success (with_reducible first | intro _ | refine st_and ?_ | refine st_ex ?_ | refine st_ex1 ?_ | refine st_eq ?_ | refine st_cr ?_ | refine st_td ?_ | refine st_tl ?_ | refine st_tt ?_ | refine st_tz ?_ | refine st_bs ?_ | refine st_ba ?_ | refine st_bp ?_ | refine st_bu ?_ | refine st_bg ?_ | refine st_sn ?_ | refine st_fo ?_ | refine st_al ?_ | refine st_ad ?_ | refine st_el ?_ | refine st_ed ?_ | refine st_cNq ?_ | refine st_cIn ?_ | refine st_cNn ?_)); walk1) | (leave1; walk_say "STEP leave1"; try dsimp only)) | fail "no step")); (try k_sweep); ((try (with_reducible rename Fr _ _ _ _ => F)); (try (with_reducible rename News _ _ _ _ => N))))
    have bk := back F N (fun p hp => List.Mem.tail _ hp)
    have hs10 := src_bk hs9 bk hsL
    have hc10 := bk _ _ (Nat.succ_ne_self _) hc9
    refine ⟨fun a o e => F.keep _ _ (X a o e), ?_⟩
    ((try (with_reducible show wpAny _ _ _ _ _ _)); (try dsimp only))
    k_fold
    refine anyE (row_call (mg := mg) (mb := mb) (src := src) (hh _) ?hd ?hu ?hg hs10 ?_)
    case hd => rw [depth_deeper]; omega
    case hu => rw [units_deeper]; omega
    case hg => exact ⟨s.heap, G1, F.keep, hsn⟩
    intro h11 tk11 Da ra kb11 hs11 hDan hra
    have hc11 := kb11 _ _ hcs hc10
    have F := fr_kpb F hsn hsL kb11
    have hns11 := F.ns
    clear N back bk
    obtain ⟨nl, N0, back⟩ := all_news F
    have N := news_cons N0 hc11 (Nat.succ_ne_self _) hcn
    ((try (with_reducible show wpAny _ _ _ _ _ _)); (try dsimp only))
    ((repeat' (first | (k_unfold; (try dsimp only)) | (k_end; fail) | ((fail_if_success (with_reducible first | intro _ | refine st_and ?_ | refine st_ex ?_ | refine st_ex1 ?_ | refine st_eq ?_ | refine st_cr ?_ | refine st_td ?_ | refine st_tl ?_ | refine st_tt ?_ | refine st_tz ?_ | refine st_bs ?_ | refine st_ba ?_ | refine st_bp ?_ | refine st_bu ?_ | refine st_bg ?_ | refine st_sn ?_ | refine st_fo ?_ | refine st_al ?_ | refine st_ad ?_ | refine st_el ?_ | refine st_ed ?_ | refine st_cNq ?_ | refine st_cIn ?_ | refine st_cNn ?_)); first | walk1 | (dsimp only; (fail_if_success (with_reducible first | intro _ | refine st_and ?_ | refine st_ex ?_ | refine st_ex1 ?_ | refine st_eq ?_ | refine st_cr ?_ | refine st_td ?_ | refine st_tl ?_ | refine st_tt ?_ | refine st_tz ?_ | refine st_bs ?_ | refine st_ba ?_ | refine st_bp ?_ | refine st_bu ?_ | refine st_bg ?_ | refine st_sn ?_ | refine st_fo ?_ | refine st_al ?_ | refine st_ad ?_ | refine st_el ?_ | refine st_ed ?_ | refine st_cNq ?_ | refine st_cIn ?_ | refine st_cNn ?_)); walk1) | (leave1; walk_say "STEP leave1"; try dsimp only)) | fail "no step")); (try k_sweep); ((try (with_reducible rename Fr _ _ _ _ => F)); (try (with_reducible rename News _ _ _ _ => N))))
    have bk := back F N (fun p hp => List.Mem.tail _ hp)
    have hs12 := src_bk hs11 bk hsL
    have hc12 := bk _ _ (Nat.succ_ne_self _) hc11
    have hra := hra.past hns11 bk
    refine ⟨fun a o e => F.keep _ _ (X a o e), ?_⟩
    ((try (with_reducible show wpAny _ _ _ _ _ _)); (try dsimp only))
    k_fold
    refine anyE (row_call (mg := mg) (mb := mb) (src := src) (hh _) ?hd ?hu ?hg hs12 ?_)
    case hd => rw [depth_deeper]; omega
    case hu => rw [units_deeper]; omega
    case hg => exact ⟨s.heap, G1, F.keep, hsn⟩
    intro h13 tk13 Db rb kb13 hs13 hDbn hrb
    have hra := hra.kpb hs12 kb13
    have hc13 := kb13 _ _ hcs hc12
    have F := fr_kpb F hsn hsL kb13
    have hns13 := F.ns
    clear N back bk
    obtain ⟨nl, N0, back⟩ := all_news F
    have N := news_cons N0 hc13 (Nat.succ_ne_self _) hcn
    ((try (with_reducible show wpAny _ _ _ _ _ _)); (try dsimp only))
    ((repeat' (first | (k_unfold; (try dsimp only)) | (k_end; fail) | ((fail_if_success (with_reducible first | refine st_if ?_ | refine st_ie ?_ | intro _ | refine st_and ?_ | refine st_ex ?_ | refine st_ex1 ?_ | refine st_eq ?_ | refine st_cr ?_ | refine st_td ?_ | refine st_tl ?_ | refine st_tt ?_ | refine st_tz ?_ | refine st_bs ?_ | refine st_ba ?_ | refine st_bp ?_ | refine st_bu ?_ | refine st_bg ?_ | refine st_sn ?_ | refine st_fo ?_ | refine st_al ?_ | refine st_ad ?_ | refine st_el ?_ | refine st_ed ?_ | refine st_cNq ?_ | refine st_cIn ?_ | refine st_cNn ?_)); first | walk1 | (dsimp only; (fail_if_success (with_reducible first | refine st_if ?_ | refine st_ie ?_ | intro _ | refine st_and ?_ | refine st_ex ?_ | refine st_ex1 ?_ | refine st_eq ?_ | refine st_cr ?_ | refine st_td ?_ | refine st_tl ?_ | refine st_tt ?_ | refine st_tz ?_ | refine st_bs ?_ | refine st_ba ?_ | refine st_bp ?_ | refine st_bu ?_ | refine st_bg ?_ | refine st_sn ?_ | refine st_fo ?_ | refine st_al ?_ | refine st_ad ?_ | refine st_el ?_ | refine st_ed ?_ | refine st_cNq ?_ | refine st_cIn ?_ | refine st_cNn ?_)); walk1) | (leave1; walk_say "STEP leave1"; try dsimp only)) | fail "no step")); (try k_sweep); ((try (with_reducible rename Fr _ _ _ _ => F)); (try (with_reducible rename News _ _ _ _ => N))))
    rename_i Dr h13b lt13 h14
    have bk := back F N (fun p hp => List.Mem.tail _ (List.Mem.tail _ hp))
    have hs14 := src_bk hs13 bk hsL
    have hc14 := bk _ _ (Nat.succ_ne_self _) hc13
    have hra := hra.past hns13 bk
    have hrb := hrb.past hns13 bk
    have hDr14 : h14.PlainList Dr [.ref Da, .ref Db].toArray := plN N (List.Mem.head _)
    have hDrn : s.heap.get? Dr = none := N.fresh (List.Mem.head _)
    have hDrL : Dr ≠ s.heap.objs.size := pl_ne_ns F.ns hDr14
    clear bk back hns13 hs13 hc13
    ((try (with_reducible show wpAny _ _ _ _ _ _)); (try dsimp only))
    k_fold
    obtain ⟨m14, hm14, F14⟩ : ∃ M, M = _ ∧ Fr s.heap s.heap.objs.size h14 M := ⟨_, rfl, F⟩
    clear F14
    refine anyE (wpAny_mono (Q := fun f s' => ∃ h' tk' De re, f = Flow.next ∧ s' = { s with heap := h', toks := tk' } ∧ h'.Ns s.heap.objs.size m14 ∧ Kp s.heap h' ∧ SrcL h' src ∧ h'.get? (s.heap.objs.size + 1) = some oc7 ∧
      h'.PlainList Dr [.ref Da, .ref De].toArray ∧ RowL h' Da ra ∧ RowL h' De re) ?_ ?_ F0_mono)
    · ((repeat' (first | (k_unfold; (try dsimp only)) | (k_end; fail) | ((fail_if_success (with_reducible first | intro _ | refine st_and ?_ | refine st_ex ?_ | refine st_ex1 ?_ | refine st_eq ?_ | refine st_cr ?_ | refine st_td ?_ | refine st_tl ?_ | refine st_tt ?_ | refine st_tz ?_ | refine st_bs ?_ | refine st_ba ?_ | refine st_bp ?_ | refine st_bu ?_ | refine st_bg ?_ | refine st_sn ?_ | refine st_fo ?_ | refine st_al ?_ | refine st_ad ?_ | refine st_el ?_ | refine st_ed ?_ | refine st_cNq ?_ | refine st_cIn ?_ | refine st_cNn ?_)); first | walk1 | (dsimp only; (fail_if_success (with_reducible first | intro _ | refine st_and ?_ | refine st_ex ?_ | refine st_ex1 ?_ | refine st_eq ?_ | refine st_cr ?_ | refine st_td ?_ | refine st_tl ?_ | refine st_tt ?_ | refine st_tz ?_ | refine st_bs ?_ | refine st_ba ?_ | refine st_bp ?_ | refine st_bu ?_ | refine st_bg ?_ | refine st_sn ?_ | refine st_fo ?_ | refine st_al ?_ | refine st_ad ?_ | refine st_el ?_ | refine st_ed ?_ | refine st_cNq ?_ | refine st_cIn ?_ | refine st_cNn ?_)); walk1) | (leave1; walk_say "STEP leave1"; try dsimp only)) | fail "no step")); (try k_sweep); ((try (with_reducible rename Fr _ _ _ _ => F)); (try (with_reducible rename News _ _ _ _ => N))))
      refine ⟨fun a o e => F.keep _ _ (X a o e), ?_⟩
      ((try (with_reducible show wpAny _ _ _ _ _ _)); (try dsimp only))
      k_fold
      refine anyE (take_call (mg := mg) (mb := mb) (src := src) ?hd ?hu ?hg hs14 (by decide) (by decide) ?_)
      case hd => rw [depth_deeper]; omega
      case hu => rw [units_deeper]; omega
      case hg => exact ⟨s.heap, G1, F.keep, hsn⟩
      intro h15 tk15 r15 t15 kb15 hs15 hq0 hq1
      have hra := hra.kpb hs14 kb15
      have hrb := hrb.kpb hs14 kb15
      have hDr15 := hDr14.at fun o e => kb15 _ o (pl_ne_src2 hDr14 hs14) e
      have hc15 := kb15 _ _ hcs hc14
      have F := fr_kpb F hsn hsL kb15
      obtain ⟨kr, eDr15⟩ := id hDr15
      clear N
      have N := news_cons (news_cons (news0 F) hc15 (Nat.succ_ne_self _) hcn) eDr15 hDrL hDrn
      ((try (with_reducible show wpAny _ _ _ _ _ _)); (try dsimp only))
      ((repeat' (first | (k_unfold; (try dsimp only)) | (k_end; fail) | ((fail_if_success (with_reducible first | intro _ | refine st_and ?_ | refine st_ex ?_ | refine st_ex1 ?_ | refine st_eq ?_ | refine st_cr ?_ | refine st_td ?_ | refine st_tl ?_ | refine st_tt ?_ | refine st_tz ?_ | refine st_bs ?_ | refine st_ba ?_ | refine st_bp ?_ | refine st_bu ?_ | refine st_bg ?_ | refine st_sn ?_ | refine st_fo ?_ | refine st_al ?_ | refine st_ad ?_ | refine st_el ?_ | refine st_ed ?_ | refine st_cNq ?_ | refine st_cIn ?_ | refine st_cNn ?_)); first | walk1 | (dsimp only; (fail_if_success (with_reducible first | intro _ | refine st_and ?_ | refine st_ex ?_ | refine st_ex1 ?_ | refine st_eq ?_ | refine st_cr ?_ | refine st_td ?_ | refine st_tl ?_ | refine st_tt ?_ | refine st_tz ?_ | refine st_bs ?_ | refine st_ba ?_ | refine st_bp ?_ | refine st_bu ?_ | refine st_bg ?_ | refine st_sn ?_ | refine st_fo ?_ | refine st_al ?_ | refine st_ad ?_ | refine st_el ?_ | refine st_ed ?_ | refine st_cNq ?_ | refine st_cIn ?_ | refine st_cNn ?_)); walk1) | (leave1; walk_say "STEP leave1"; try dsimp only)) | fail "no step")); (try k_sweep); ((try (with_reducible rename Fr _ _ _ _ => F)); (try (with_reducible rename News _ _ _ _ => N))))
      all_goals (try k_sweep)
      all_goals ((try (with_reducible rename Fr _ _ _ _ => F)); (try (with_reducible rename News _ _ _ _ => N)))
      · obtain ⟨okA, ysA, ⟨kA, eA⟩, allA⟩ := id hra
        have hlA : ysA.length = 5 := allA.length
        have hltA := Heap.lt_size eA
        refine call_list_seq (items := ysA.toArray) Da (.inl rfl) eA rfl rfl (fun h16 c16 kp16 e16 => ?_) (by rw [List.size_toArray, sizeLine_eq]; omega)
        have hra := hra.keep kp16
        have hrn : RowL h16 h15.objs.size ra := ⟨okA, ysA, ⟨c16, e16⟩, allA.mono fun _ _ q => q.keep kp16⟩
        have hs16 := hs15.keep kp16
        have hc16 := kp16 _ _ hc15
        have hDr16 := hDr15.at fun o e => kp16 _ o e
        have F := F.keeps kp16
        clear N
        obtain ⟨nl, N0, back⟩ := all_news F
        have N := news_cons N0 (kp16 _ _ eDr15) hDrL hDrn
        clear N0
        ((try (with_reducible show wpAny _ _ _ _ _ _)); (try dsimp only))
        ((repeat' (first | (k_unfold; (try dsimp only)) | (k_end; fail) | ((fail_if_success (with_reducible first | intro _ | refine st_and ?_ | refine st_ex ?_ | refine st_ex1 ?_ | refine st_eq ?_ | refine st_cr ?_ | refine st_td ?_ | refine st_tl ?_ | refine st_tt ?_ | refine st_tz ?_ | refine st_bs ?_ | refine st_ba ?_ | refine st_bp ?_ | refine st_bu ?_ | refine st_bg ?_ | refine st_sn ?_ | refine st_fo ?_ | refine st_al ?_ | refine st_ad ?_ | refine st_el ?_ | refine st_ed ?_ | refine st_cNq ?_ | refine st_cIn ?_ | refine st_cNn ?_)); first | walk1 | (dsimp only; (fail_if_success (with_reducible first | intro _ | refine st_and ?_ | refine st_ex ?_ | refine st_ex1 ?_ | refine st_eq ?_ | refine st_cr ?_ | refine st_td ?_ | refine st_tl ?_ | refine st_tt ?_ | refine st_tz ?_ | refine st_bs ?_ | refine st_ba ?_ | refine st_bp ?_ | refine st_bu ?_ | refine st_bg ?_ | refine st_sn ?_ | refine st_fo ?_ | refine st_al ?_ | refine st_ad ?_ | refine st_el ?_ | refine st_ed ?_ | refine st_cNq ?_ | refine st_cIn ?_ | refine st_cNn ?_)); walk1) | (leave1; walk_say "STEP leave1"; try dsimp only)) | fail "no step")); (try k_sweep); ((try (with_reducible rename Fr _ _ _ _ => F)); (try (with_reducible rename News _ _ _ _ => N))))
        refine set_plain hDr16 (by decide) (by decide) (by simp) fun h17 hDr17 hs17' => ?_
        have hDr17 : h17.PlainList Dr [.ref Da, .ref h15.objs.size].toArray := hDr17
        have hk17 : ∀ b o, b ≠ Dr → h16.get? b = some o → h17.get? b = some o := fun b o hb e => hs17'.extBut b o hb e
        have hra := hra.but hDr16 hk17
        have hrn := hrn.but hDr16 hk17
        have hs17 := src_bk hs16 hk17 (pl_ne_src2 hDr16 hs16)
        have hc17 : h17.get? (s.heap.objs.size + 1) = some oc7 := hk17 _ _ (fun z => by
          obtain ⟨n, e⟩ := hDr16
          rw [← z, hc16] at e; cases e; cases hoc7) hc16
        have F := but_Fr' F hDrL hDrn hk17
        clear N
        have N := news0 F
        ((try (with_reducible show wpAny _ _ _ _ _ _)); (try dsimp only))
        ((repeat' (first | (k_unfold; (try dsimp only)) | (k_end; fail) | ((fail_if_success (with_reducible first | intro _ | refine st_and ?_ | refine st_ex ?_ | refine st_ex1 ?_ | refine st_eq ?_ | refine st_cr ?_ | refine st_td ?_ | refine st_tl ?_ | refine st_tt ?_ | refine st_tz ?_ | refine st_bs ?_ | refine st_ba ?_ | refine st_bp ?_ | refine st_bu ?_ | refine st_bg ?_ | refine st_sn ?_ | refine st_fo ?_ | refine st_al ?_ | refine st_ad ?_ | refine st_el ?_ | refine st_ed ?_ | refine st_cNq ?_ | refine st_cIn ?_ | refine st_cNn ?_)); first | walk1 | (dsimp only; (fail_if_success (with_reducible first | intro _ | refine st_and ?_ | refine st_ex ?_ | refine st_ex1 ?_ | refine st_eq ?_ | refine st_cr ?_ | refine st_td ?_ | refine st_tl ?_ | refine st_tt ?_ | refine st_tz ?_ | refine st_bs ?_ | refine st_ba ?_ | refine st_bp ?_ | refine st_bu ?_ | refine st_bg ?_ | refine st_sn ?_ | refine st_fo ?_ | refine st_al ?_ | refine st_ad ?_ | refine st_el ?_ | refine st_ed ?_ | refine st_cNq ?_ | refine st_cIn ?_ | refine st_cNn ?_)); walk1) | (leave1; walk_say "STEP leave1"; try dsimp only)) | fail "no step")); (try k_sweep); ((try (with_reducible rename Fr _ _ _ _ => F)); (try (with_reducible rename News _ _ _ _ => N))))
        exact ⟨h17, _, _, ra, rfl, rfl, hm14 ▸ F.ns, F.keep, hs17, hc17, hDr17, hra, hrn⟩
      · exact ⟨h15, _, _, rb, rfl, rfl, hm14 ▸ F.ns, F.keep, hs15, hc15, hDr15, hra, hrb⟩
    clear F N hs14 hc14 hra hrb hDr14
    rintro f s' ⟨h17, tk17, De, re, rfl, rfl, hns17, kp17, hs17, hc17, hDr17, hra, hre⟩
    rw [hm14] at hns17
    have F : Fr s.heap s.heap.objs.size h17 _ := ⟨hns17, kp17, Nat.le_refl _⟩
    have N := news_cons (news_cons (news0 F) hc17 (Nat.succ_ne_self _) hcn) hDr17.choose_spec hDrL hDrn
    ((repeat' (first | (k_unfold; (try dsimp only)) | (k_end; fail) | ((fail_if_success (with_reducible first | refine st_if ?_ | refine st_ie ?_ | intro _ | refine st_and ?_ | refine st_ex ?_ | refine st_ex1 ?_ | refine st_eq ?_ | refine st_cr ?_ | refine st_td ?_ | refine st_tl ?_ | refine st_tt ?_ | refine st_tz ?_ | refine st_bs ?_ | refine st_ba ?_ | refine st_bp ?_ | refine st_bu ?_ | refine st_bg ?_ | refine st_sn ?_ | refine st_fo ?_ | refine st_al ?_ | refine st_ad ?_ | refine st_el ?_ | refine st_ed ?_ | refine st_cNq ?_ | refine st_cIn ?_ | refine st_cNn ?_)); first | walk1 | (dsimp only; (fail_if_success (with_reducible first | refine st_if ?_ | refine st_ie ?_ | intro _ | refine st_and ?_ | refine st_ex ?_ | refine st_ex1 ?_ | refine st_eq ?_ | refine st_cr ?_ | refine st_td ?_ | refine st_tl ?_ | refine st_tt ?_ | refine st_tz ?_ | refine st_bs ?_ | refine st_ba ?_ | refine st_bp ?_ | refine st_bu ?_ | refine st_bg ?_ | refine st_sn ?_ | refine st_fo ?_ | refine st_al ?_ | refine st_ad ?_ | refine st_el ?_ | refine st_ed ?_ | refine st_cNq ?_ | refine st_cIn ?_ | refine st_cNn ?_)); walk1) | (leave1; walk_say "STEP leave1"; try dsimp only)) | fail "no step")); (try k_sweep); ((try (with_reducible rename Fr _ _ _ _ => F)); (try (with_reducible rename News _ _ _ _ => N))))
    ((try (with_reducible show wpAny _ _ _ _ _ _)); (try dsimp only))
    k_fold
    refine anyE (wpAny_mono (Q := fun v s' => ∃ h' tk' Dv a ta b tb, v = .ref Dv ∧ s' = { s with heap := h', toks := tk' } ∧ h'.Ns s.heap.objs.size m14 ∧ Kp s.heap h' ∧ h'.PlainList Dv [.str a ta, .str b tb].toArray ∧
      h'.PlainList Dr [.ref Da, .ref De].toArray ∧ RowL h' Da ra ∧ RowL h' De re) ?_ ?_ F0_mono)
    · clear N
      obtain ⟨nl, N0, back⟩ := all_news F
      have N := news_cons (news_cons N0 hc17 (Nat.succ_ne_self _) hcn) hDr17.choose_spec hDrL hDrn
      clear N0
      ((repeat' (first | (k_unfold; (try dsimp only)) | (k_end; fail) | ((fail_if_success (with_reducible first | intro _ | refine st_and ?_ | refine st_ex ?_ | refine st_ex1 ?_ | refine st_eq ?_ | refine st_cr ?_ | refine st_td ?_ | refine st_tl ?_ | refine st_tt ?_ | refine st_tz ?_ | refine st_bs ?_ | refine st_ba ?_ | refine st_bp ?_ | refine st_bu ?_ | refine st_bg ?_ | refine st_sn ?_ | refine st_fo ?_ | refine st_al ?_ | refine st_ad ?_ | refine st_el ?_ | refine st_ed ?_ | refine st_cNq ?_ | refine st_cIn ?_ | refine st_cNn ?_)); first | walk1 | (dsimp only; (fail_if_success (with_reducible first | intro _ | refine st_and ?_ | refine st_ex ?_ | refine st_ex1 ?_ | refine st_eq ?_ | refine st_cr ?_ | refine st_td ?_ | refine st_tl ?_ | refine st_tt ?_ | refine st_tz ?_ | refine st_bs ?_ | refine st_ba ?_ | refine st_bp ?_ | refine st_bu ?_ | refine st_bg ?_ | refine st_sn ?_ | refine st_fo ?_ | refine st_al ?_ | refine st_ad ?_ | refine st_el ?_ | refine st_ed ?_ | refine st_cNq ?_ | refine st_cIn ?_ | refine st_cNn ?_)); walk1) | (leave1; walk_say "STEP leave1"; try dsimp only)) | fail "no step")); (try k_sweep); ((try (with_reducible rename Fr _ _ _ _ => F)); (try (with_reducible rename News _ _ _ _ => N))))
      all_goals (try k_sweep)
      all_goals ((try (with_reducible rename Fr _ _ _ _ => F)); (try (with_reducible rename News _ _ _ _ => N)))
      · rename_i Dv hv ltv
        have bk := back F N (fun p hp => List.Mem.tail _ (List.Mem.tail _ (List.Mem.tail _ hp)))
        have hDrv := hDr17.at fun o e => bk _ o hDrL e
        exact ⟨hv, _, Dv, _, _, _, _, rfl, rfl, hm14 ▸ F.ns, F.keep, plN N (List.Mem.head _), hDrv, hra.past hns17 bk, hre.past hns17 bk⟩
      · ((try (with_reducible show wpAny _ _ _ _ _ _)); (try dsimp only))
        k_fold
        refine anyE (lc_stv (cl := [("source", s.heap.objs.size + 1)]) (hclos := ?hclos) ?_ (by decide) rfl (by decide))
        case hclos => rfl
        iterate 6 (first | walk1 | (dsimp only; walk1))
        refine call_range_1 ?_
        refine range2_iter (hh _) (Heap.get?_push_size _ rfl) fun I St h18 It hst0 hI hIlt kp18 => ?_
        have kpY : Kp h17 h18 := fun b o e => kp18 b o (Heap.get?_push_of_some _ e)
        have nI : ∀ b o, h17.get? b = some o → b ≠ I := fun b o e q => by
          rw [q] at e
          exact nomatch (hI.symm.trans (Heap.get?_push_of_some _ e))
        have hs18 := hs17.keep kpY
        have hns18 := F.ns.at' fun o e => kpY _ o e
        have hsz18 : s.heap.objs.size < h18.objs.size := hns18.lt
        have hsl18 : src < h18.objs.size := (let ⟨_, _, e⟩ := src_list hs18; Heap.lt_size e)
        have hsI : src ≠ I := (let ⟨_, _, e⟩ := src_list hs17; nI _ _ e)
        refine ⟨I, 2, _, _, St, _, (· = src), (fun h => SrcL h src), (fun y => ∃ x t, y = .str x t), rfl, It (fun _ => rfl) (fun _ => rfl), hst0, ?_, by rw [sizeLine_eq]; omega, ?_, ?_, hs18, ?_, ?_, ?_⟩
        · intro b hb
          rcases hb with hb | hb
          · exact hb.elim
          · rw [List.mem_singleton.mp hb]; exact hIlt
        · rintro b rfl; exact hsl18
        · rintro b rfl hb
          rcases hb with hb | hb
          · exact hb.elim
          · exact hsI (List.mem_singleton.mp hb)
        · intro h h' hk hj
          obtain ⟨a, b, t, u, n, q1, q2, q3, e⟩ := hj
          exact ⟨a, b, t, u, n, q1, q2, q3, hk _ _ (fun q => hsI (List.mem_singleton.mp q)) (Nat.ne_of_lt hsl18) (Nat.ne_of_lt (Nat.lt_succ_of_lt hsl18)) e⟩
        · intro i s' m₀ m hi hB hns' hj hkp
          obtain ⟨v, _, rfl⟩ := hB
          have kb' : ∀ b o, b ≠ src → h17.get? b = some o → s'.heap.get? b = some o := fun b o hb e => hkp b o (fun q => nI b o e (List.mem_singleton.mp q)) hb (kpY b o e)
          have F : Fr s.heap (h18.objs.size + 1) s'.heap _ := ⟨hns', fun b o e => kb' b o (fun z => by subst z; rw [hsn] at e; cases e) (F.keep b o e), Nat.le_of_lt (Nat.lt_succ_of_lt hsz18)⟩
          have hcs' := kb' _ _ hcs hc17
          have hcC : s.heap.objs.size + 1 ≠ h18.objs.size + 1 := fun q => Nat.ne_of_lt hsz18 (Nat.succ.inj q)
          have hCs : h18.objs.size + 1 ≠ src := fun q => Nat.ne_of_lt (Nat.lt_succ_of_lt hsl18) q.symm
          clear N back
          obtain ⟨nl, N0, back⟩ := all_news F
          have N := news_cons N0 hcs' hcC hcn
          clear N0
          ((try (with_reducible show wpAny _ _ _ _ _ _)); (try dsimp only))
          ((repeat' (first | (k_unfold; (try dsimp only)) | (k_end; fail) | ((fail_if_success (with_reducible first | intro _ | refine st_and ?_ | refine st_ex ?_ | refine st_ex1 ?_ | refine st_eq ?_ | refine st_cr ?_ | refine st_td ?_ | refine st_tl ?_ | refine st_tt ?_ | refine st_tz ?_ | refine st_bs ?_ | refine st_ba ?_ | refine st_bp ?_ | refine st_bu ?_ | refine st_bg ?_ | refine st_sn ?_ | refine st_fo ?_ | refine st_al ?_ | refine st_ad ?_ | refine st_el ?_ | refine st_ed ?_ | refine st_cNq ?_ | refine st_cIn ?_ | refine st_cNn ?_)); first | walk1 | (dsimp only; (fail_if_success (with_reducible first | intro _ | refine st_and ?_ | refine st_ex ?_ | refine st_ex1 ?_ | refine st_eq ?_ | refine st_cr ?_ | refine st_td ?_ | refine st_tl ?_ | refine st_tt ?_ | refine st_tz ?_ | refine st_bs ?_ | refine st_ba ?_ | refine st_bp ?_ | refine st_bu ?_ | refine st_bg ?_ | refine st_sn ?_ | refine st_fo ?_ | refine st_al ?_ | refine st_ad ?_ | refine st_el ?_ | refine st_ed ?_ | refine st_cNq ?_ | refine st_cIn ?_ | refine st_cNn ?_)); walk1) | (leave1; walk_say "STEP leave1"; try dsimp only)) | fail "no step")); (try k_sweep); ((try (with_reducible rename Fr _ _ _ _ => F)); (try (with_reducible rename News _ _ _ _ => N))))
          rename_i D9 h19 lt9
          have bk := back F N (fun p hp => List.Mem.tail _ (List.Mem.tail _ hp))
          have hj := src_bk hj bk hCs
          have hl9 : ∃ a b, h19.PlainList D9 [.str "x" a, .str "y" b].toArray := ⟨_, _, plN N (List.Mem.head _)⟩
          obtain ⟨xa, xb, hl9⟩ := hl9
          refine ⟨fun a o e => F.keep _ _ (X a o e), ?_⟩
          ((try (with_reducible show wpAny _ _ _ _ _ _)); (try dsimp only))
          refine anyE (one_call (mg := mg) (mb := mb) (src := src) (l := D9) (vs := [.str "x" xa, .str "y" xb]) ?hd ?hu ?hg hj hl9 (pl_ne_src (vs := [_]) hl9 hj) (by simp) (by simp) ?_)
          case hd => rw [depth_deeper]; omega
          case hu => rw [units_deeper]; omega
          case hg => exact ⟨s.heap, G1, F.keep, hsn⟩
          intro h21 tk21 v21 kb21 hs21 hv21
          k_unfold
          refine ⟨⟨h21, _, _, rfl, (fr_kpb F hsn hCs kb21).ns, hs21, fun b o hb hbC e => kb21 b o hb (bk b o hbC e)⟩, ?_⟩
          simp at hv21
          rcases hv21 with rfl | rfl <;> exact ⟨_, _, rfl⟩
        · intro h30 tk30 ys D30 hD30 hpl30 hlen30 hall30 hj30 hk30
          obtain ⟨y1, tt1, y2, tt2, rfl⟩ : ∃ a t b u, ys = [.str a t, .str b u] := by
            match ys, hlen30, hall30 with
            | [a, b], _, hall =>
              obtain ⟨x, t, rfl⟩ := hall a (by simp)
              obtain ⟨y, u, rfl⟩ := hall b (by simp)
              exact ⟨_, _, _, _, rfl⟩
          have kb30 : KpB src h17 h30 := fun b o hb e => hk30 b o (fun q => nI b o e (List.mem_singleton.mp q)) hb (kpY b o e)
          have hra := hra.kpb hs17 kb30
          have hre := hre.kpb hs17 kb30
          have hDr30 := hDr17.at fun o e => kb30 _ o (pl_ne_src2 hDr17 hs17) e
          have hc30 := kb30 _ _ hcs hc17
          have F := fr_kpb F hsn hsL kb30
          have hns30 := F.ns
          obtain ⟨kr30, eDr30⟩ := id hDr30
          ((try (with_reducible show wpAny _ _ _ _ _ _)); (try dsimp only))
          exact ⟨h30, _, D30, _, _, _, _, rfl, rfl, hm14 ▸ F.ns, F.keep, hpl30, hDr30, hra, hre⟩
    clear F N hs17 hc17 hra hre hDr17 hns17 kp17
    rintro v s' ⟨h18, tk18, Dv, wx, wtx, wy, wty, rfl, rfl, hns18, kp18, hpl18, hDr18, hra, hre⟩
    rw [hm14] at hns18
    have F : Fr s.heap s.heap.objs.size h18 _ := ⟨hns18, kp18, Nat.le_refl _⟩
    obtain ⟨nl, N, back⟩ := all_news F
    ((repeat' (first | (k_unfold; (try dsimp only)) | (k_end; fail) | ((fail_if_success (with_reducible first | intro _ | refine st_and ?_ | refine st_ex ?_ | refine st_ex1 ?_ | refine st_eq ?_ | refine st_cr ?_ | refine st_td ?_ | refine st_tl ?_ | refine st_tt ?_ | refine st_tz ?_ | refine st_bs ?_ | refine st_ba ?_ | refine st_bp ?_ | refine st_bu ?_ | refine st_bg ?_ | refine st_sn ?_ | refine st_fo ?_ | refine st_al ?_ | refine st_ad ?_ | refine st_el ?_ | refine st_ed ?_ | refine st_cNq ?_ | refine st_cIn ?_ | refine st_cNn ?_)); first | walk1 | (dsimp only; (fail_if_success (with_reducible first | intro _ | refine st_and ?_ | refine st_ex ?_ | refine st_ex1 ?_ | refine st_eq ?_ | refine st_cr ?_ | refine st_td ?_ | refine st_tl ?_ | refine st_tt ?_ | refine st_tz ?_ | refine st_bs ?_ | refine st_ba ?_ | refine st_bp ?_ | refine st_bu ?_ | refine st_bg ?_ | refine st_sn ?_ | refine st_fo ?_ | refine st_al ?_ | refine st_ad ?_ | refine st_el ?_ | refine st_ed ?_ | refine st_cNq ?_ | refine st_cIn ?_ | refine st_cNn ?_)); walk1) | (leave1; walk_say "STEP leave1"; try dsimp only)) | fail "no step")); (try k_sweep); ((try (with_reducible rename Fr _ _ _ _ => F)); (try (with_reducible rename News _ _ _ _ => N))))
    have bk := back F N (fun p hp => hp)
    have hra := hra.past hns18 bk
    have hre := hre.past hns18 bk
    have hDrv := hDr18.at fun o e => bk _ o hDrL e
    have hwv := hpl18.at fun o e => bk _ o (pl_ne_ns hns18 hpl18) e
    refine ⟨fun a o e => F.keep _ _ (X a o e), ?_⟩
    ((try (with_reducible show wpAny _ _ _ _ _ _)); (try dsimp only))
    k_fold
    refine anyE (right_call (mg := mg) (mb := mb) (hh _) ?hd ?hu ?hG hwv hDrv hra hre ?_)
    case hd => rw [depth_deeper]; omega
    case hu => rw [units_deeper]; omega
    case hG => exact G1.keep F.keep
    intro h20 tk20 kp20
    have F := F.keeps kp20
    ((try (with_reducible show wpAny _ _ _ _ _ _)); (try dsimp only))
    ((repeat' (first | (k_unfold; (try dsimp only)) | (k_end; fail) | ((fail_if_success (with_reducible first | intro _ | refine st_and ?_ | refine st_ex ?_ | refine st_ex1 ?_ | refine st_eq ?_ | refine st_cr ?_ | refine st_td ?_ | refine st_tl ?_ | refine st_tt ?_ | refine st_tz ?_ | refine st_bs ?_ | refine st_ba ?_ | refine st_bp ?_ | refine st_bu ?_ | refine st_bg ?_ | refine st_sn ?_ | refine st_fo ?_ | refine st_al ?_ | refine st_ad ?_ | refine st_el ?_ | refine st_ed ?_ | refine st_cNq ?_ | refine st_cIn ?_ | refine st_cNn ?_)); first | walk1 | (dsimp only; (fail_if_success (with_reducible first | intro _ | refine st_and ?_ | refine st_ex ?_ | refine st_ex1 ?_ | refine st_eq ?_ | refine st_cr ?_ | refine st_td ?_ | refine st_tl ?_ | refine st_tt ?_ | refine st_tz ?_ | refine st_bs ?_ | refine st_ba ?_ | refine st_bp ?_ | refine st_bu ?_ | refine st_bg ?_ | refine st_sn ?_ | refine st_fo ?_ | refine st_al ?_ | refine st_ad ?_ | refine st_el ?_ | refine st_ed ?_ | refine st_cNq ?_ | refine st_cIn ?_ | refine st_cNn ?_)); walk1) | (leave1; walk_say "STEP leave1"; try dsimp only)) | fail "no step")); (try k_sweep); ((try (with_reducible rename Fr _ _ _ _ => F)); (try (with_reducible rename News _ _ _ _ => N))))
    exact good_true hg F)
end Mine

theorem PySem.Challenge.cw_xm0645_01_holds : PySem.Challenge.rw_xm0645_01.Holds :=
  Mine.law_holds
